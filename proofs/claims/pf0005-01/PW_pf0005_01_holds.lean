import PyProof.Rows.All
import Wide.All
import OpenK.AllK
import Wide.FinOn
import PySem.Challenge.RW_pf0005_01
open PySem PySem.W PyProof.Rows PySem.Spec PySem.Calls
set_option Elab.async false
set_option maxRecDepth 100000
set_option maxHeartbeats 8000000
set_option linter.unusedVariables false
namespace Mine
set_option synthInstance.maxSize 1 in
open_top hd for PySem.Challenge.rw_pf0005_01
theorem top_off : True := by w_top off; trivial
local macro_rules | `(tactic| k_qdec) => `(tactic| decide +kernel)
local macro_rules | `(tactic| walk_at $s:str) => `(tactic| k_extra $s)
local macro_rules | `(tactic| k_ne) => `(tactic| k_extra "ne")
local macro_rules | `(tactic| k_all) => `(tactic| k_extra "all")
local macro_rules | `(tactic| tlg_ne) => `(tactic| k_extra "cj")
local macro_rules | `(tactic| k_enter) => `(tactic| k_extra "enter")
/-! Take -/
/-- all stands as it stood, but at these places -/
def Kept (ch : List Addr) (h h' : Heap) : Prop := ∀ b o, h.get? b = some o → b ∉ ch → h'.get? b = some o
theorem Kept.news {ch : List Addr} {h₀ h h' : Heap} {L : Addr} {news : List (Addr × Obj)} (k : Kept ch h h') (N : News h₀ L h news) (off : ∀ p ∈ news, p.1 ∉ ch) : News h₀ L h' news :=
  fun p hp => ⟨k _ _ (N p hp).1 (off p hp), (N p hp).2⟩
theorem kept_of {ch : List Addr} {h g h' : Heap} {L' : Addr} {m' : Str → Option Value} (G : GSub h g ch) (F : Fr g L' h' m') : Kept ch h h' := fun b o e hb => F.keep b o (G b o e hb)

theorem kept_pot {h₀ g h h' : Heap} {L L' pot scr : Addr} {o o' q : Obj} (k : Kept [pot, scr] h h') (N : News h₀ L h [(pot, o), (scr, q)]) (N' : News g L' h' [(pot, o'), (scr, q)]) : Kept [pot] h h' := by
  intro b ob e hb
  by_cases hs : b = scr
  · subst hs
    rw [(N (b, q) (.tail _ (.head _))).1] at e
    cases e
    exact (N' (b, q) (.tail _ (.head _))).1
  · exact k b ob e (by simp at hb; simp [hb, hs])

section
variable {w : World} {mean : ExcName → Option Value} {mg mb : Str → Option Value} {dp un : Nat} {gd : Option (List Code)} {cn : Str} {cs : Scope} {a : Addr} {ccd : Value} {cl : List (Str × Addr)} {outer : List Env} {A₀ : Around} {base h₀ : Heap} {L : Addr} {m : Str → Option Value} {s : Shared} {Q E : Value → Shared → Prop} {news news' : List (Addr × Obj)}

theorem take_G {pot scr : Addr} {n many : Int} {t u : Tok} {ep : Nat} {ws : List Value} {ns : List Int}
    (B : Below A₀ base outer h₀) (F : Fr h₀ L s.heap m) (X : (hd.heap_39 w.params).In h₀)
    (N : News h₀ L s.heap [(pot, listOf #[.int n t, .ref scr] ep), (scr, listOf ws.toArray 0)])
    (T : Top hd.view_39 (looseW hd.view_39 [Str.ofString "BasicError"]) mean mg mb h₀) (hk : cs.kind = .function)
    (hI : IntsAre ws ns) (hn : 0 ≤ n) (hn2 : n ≤ 1000) (hm : 0 < many) (hm2 : many ≤ 8) (hps : @LT.lt Nat _ scr pot)
    (hd : dp + 1 < recursionLimit) (hu : un + 8 < cLine) (hlen : ns.length ≤ 48)
    (ret : ∀ (r : Int) (t t' : Tok) h' tk', 0 ≤ r → r < many → Fr h₀ L h' m → News h₀ L h' [(pot, listOf #[.int (n + 1) t', .ref scr] ep), (scr, listOf ws.toArray 0)] → Kept [pot] s.heap h' → Q (.int r t) { s with heap := h', toks := tk' }) :
    wpAny (model PySem.Challenge.rw_pf0005_01.row.prog w) (ktrTop dp un gd cn cs L a ccd cl outer) (call (.ref 146) [.ref pot, .int many u]) Q E s := by
  refine wpAny_call ?_
  have cE' := InElt.start s.heap
  k_dflt (refine' code_defG ?k1 ?k2 ?k3 ?k4 ?k5 ?kA ?kF ?kK ?k6 ?k7 ?k8 ?k9 ?kB ?_ ?c2 ?c3 ?c4 ?c5; (case kA => exact rfl); (case kF => exact rfl); (case kK => assumption); (case k1 => k_asm); (case k2 => k_asm); (case k3 => k_asm); (case k4 => k_asm); (case k5 => k_asm); (case k6 => k_is); (case k7 => k_is); (case k8 => ktr_room); (case k9 => exact BindsTo.of_eq rfl); (case c5 => decide); (case kB => exact locs rfl); (case c2 => exact rfl); (case c3 => exact rfl); (case c4 => exact rfl); k_whole; intro g' L' h' FG' F' N' B' X' T' kG'; (try dsimp only); (try k_lift B'); (try k_fold))
  k_steps
  all_goals (
    have hpp := hm
    refine ret _ _ _ _ _ ?_ ?_ (by assumption) (by assumption) (kept_pot (kept_of kG' (by assumption)) N (by assumption))
    · rw [Int.fmod_eq_emod_of_nonneg _ (Int.le_of_lt hm)]; exact Int.emod_nonneg _ (by omega)
    · rw [Int.fmod_eq_emod_of_nonneg _ (Int.le_of_lt hm)]; exact Int.emod_lt_of_pos _ hm)

theorem take_K {pot scr : Addr} {n many : Int} {t u : Tok} {ep : Nat} {ws : List Value} {ns : List Int} {led : Tok → List (Addr × Obj)}
    (B : Below A₀ base outer h₀) (F : Fr h₀ L s.heap m) (X : (hd.heap_39 w.params).In h₀) (N : News h₀ L s.heap news)
    (T : Top hd.view_39 (looseW hd.view_39 [Str.ofString "BasicError"]) mean mg mb h₀) (hk : cs.kind = .function)
    (U : ∀ t', Upd pot (listOf #[.int n t, .ref scr] ep) (listOf #[.int (n + 1) t', .ref scr] ep) news (led t')) (hs : (scr, listOf ws.toArray 0) ∈ news)
    (hI : IntsAre ws ns) (hn : 0 ≤ n) (hn2 : n ≤ 1000) (hm : 0 < many) (hm2 : many ≤ 8) (hps : @LT.lt Nat _ scr pot)
    (hd : dp + 1 < recursionLimit) (hu : un + 8 < cLine) (hlen : ns.length ≤ 48)
    (ret : ∀ (r : Int) (t t' : Tok) h' tk', 0 ≤ r → r < many → Fr h₀ L h' m → News h₀ L h' (led t') → Q (.int r t) { s with heap := h', toks := tk' }) :
    wpAny (model PySem.Challenge.rw_pf0005_01.row.prog w) (ktrTop dp un gd cn cs L a ccd cl outer) (call (.ref 146) [.ref pot, .int many u]) Q E s := by
  obtain ⟨pre, post, e, _, _, _⟩ := (U 0).split
  have hp : (pot, listOf #[.int n t, .ref scr] ep) ∈ news := by rw [e]; exact List.mem_append.mpr (.inr (.head _))
  have N2 : News h₀ L s.heap [(pot, listOf #[.int n t, .ref scr] ep), (scr, listOf ws.toArray 0)] := fun p h => by
    rcases List.mem_cons.mp h with rfl | h
    · exact N _ hp
    · rw [List.mem_singleton.mp h]; exact N _ hs
  refine take_G B F X N2 T hk hI hn hn2 hm hm2 hps hd hu hlen fun r t₁ t' h' tk' h0 h1 F' N' k => ret r t₁ t' h' tk' h0 h1 F' fun p h => ?_
  obtain ⟨pre, post, e, e', a1, a2⟩ := (U t').split
  rw [e'] at h
  rcases List.mem_append.mp h with h | h
  · have hm' : p ∈ news := by rw [e]; exact List.mem_append.mpr (.inl h)
    exact ⟨k _ _ (N p hm').1 (by simpa using a1 p h), (N p hm').2⟩
  · rcases List.mem_cons.mp h with rfl | h
    · exact N' _ (.head _)
    · have hm' : p ∈ news := by rw [e]; exact List.mem_append.mpr (.inr (.tail _ h))
      exact ⟨k _ _ (N p hm').1 (by simpa using a2 p h), (N p hm').2⟩
end

/-! Kind -/
theorem rows_1 : True := by
  k_with_none
  k_with "my enter" => ((refine wpAny_call ?_; k_dflt (refine' code_defG ?k1 ?k2 ?k3 ?k4 ?k5 ?kA ?kF ?kK ?k6 ?k7 ?k8 ?k9 ?kB ?_ ?c2 ?c3 ?c4 ?c5; (case kA => exact rfl); (case kF => exact rfl); (case kK => assumption); (case k1 => k_asm); (case k2 => k_asm); (case k3 => k_asm); (case k4 => k_asm); (case k5 => k_asm); (case k6 => k_is); (case k7 => k_is); (case k8 => ktr_room); (case k9 => exact BindsTo.of_eq rfl); (case c5 => decide); (case kB => exact locs rfl); (case c2 => exact rfl); (case c3 => exact rfl); (case c4 => exact rfl); k_whole; intro g' L' h' FG' F' N' B' X' T' kG'; (try dsimp only); (try k_lift B'); (try k_fold))))
  k_with "call builtin:dict.get" => ((k_here; k_dflt (refine get_str (by k_asm) (by k_mem) (by k_asm) (by k_asm) (by assumption) ?_); intro u'))
  trivial
/-- the text that a value bears -/
def strOf : Value → Str
  | .str x _ => x
  | _ => Str.empty
/-- each value is a text -/
def AllStr (kvs : List (Str × Value)) : Prop := ∀ k v, valueAt kvs k = some v → ∃ y u, v = .str y u
/-- the text under a key, else another -/
def getS (kvs : List (Str × Value)) (k y : Str) : Str := match valueAt kvs k with
  | some v => strOf v
  | none => y
theorem get_str {prog : Program} {w : World} {A : Around} {E Q : Value → Shared → Prop} {s : Shared} {h₀ : Heap} {L d : Addr} {news : List (Addr × Obj)} {o : Obj} {kvs : List (Str × Value)} {k y : Str} {t u : Tok}
    (N : News h₀ L s.heap news) (hp : (d, o) ∈ news) (hd : o.IsDictOf (PySem.strKind prog w) kvs) (lo : (d == sysModules) = false) (hv : AllStr kvs)
    (h : ∀ u', Q (.str (getS kvs k y) u') { s with toks := s.toks + 1 }) : wpAny (model prog w) A (call (.builtin "dict.get") [.ref d, .str k t, .str y u]) Q E s := by
  refine kdg_get2 (knd := PySem.strKind _ _) N hp hd lo (strKind_is _ _ _ _) (valueAt kvs k) rfl ?_
  cases q : valueAt kvs k with
  | none =>
    have := h u
    rw [getS, q] at this
    exact this
  | some v =>
    obtain ⟨z, u', rfl⟩ := hv _ _ q
    have := h u'
    rw [getS, q] at this
    exact this
/-- what kind_of_name gives -/
def kindS (kvs : List (Str × Value)) (x : Str) : Str :=
  if (Txt.item x ((x.length : Int) - 1) == Str.ofString "$") = true then Str.ofString "text" else
  if (Txt.item x ((x.length : Int) - 1) == Str.ofString "%") = true then Str.ofString "whole" else
  if (Txt.item x ((x.length : Int) - 1) == Str.ofString "!") = true then Str.ofString "decimal" else
  getS kvs (Txt.item x 0) (Str.ofString "decimal")

section
variable {w : World} {mean : ExcName → Option Value} {mg mb : Str → Option Value} {dp un : Nat} {gd : Option (List Code)} {cn : Str} {cs : Scope} {a : Addr} {ccd : Value} {cl : List (Str × Addr)} {outer : List Env} {A₀ : Around} {base h₀ : Heap} {L : Addr} {m : Str → Option Value} {s : Shared} {Q E : Value → Shared → Prop} {news news' : List (Addr × Obj)}
theorem kind_G {k : Addr} {x : Str} {t : Tok} {o : Obj} {kvs : List (Str × Value)}
    (B : Below A₀ base outer h₀) (F : Fr h₀ L s.heap m) (X : (hd.heap_39 w.params).In h₀)
    (N : News h₀ L s.heap [(k, o)])
    (T : Top hd.view_39 (looseW hd.view_39 [Str.ofString "BasicError"]) mean mg mb h₀) (hk : cs.kind = .function)
    (hkd : o.IsDictOf (PySem.strKind PySem.Challenge.rw_pf0005_01.row.prog w) kvs) (lo : (k == sysModules) = false)
    (hd : dp + 1 < recursionLimit) (_hu : un + 8 < cLine) (hx : 0 < x.length) (hx2 : x.length ≤ 100) (hv : AllStr kvs)
    (ret : ∀ (y : Str) (t : Tok) h' tk', y = kindS kvs x → Fr h₀ L h' m → InElt s.heap h' → Q (.str y t) { s with heap := h', toks := tk' }) :
    wpAny (model PySem.Challenge.rw_pf0005_01.row.prog w) (ktrTop dp un gd cn cs L a ccd cl outer) (call (.ref 44) [.str x t, .ref k]) Q E s := by
  have cE' := InElt.start s.heap
  walk_at "my enter"
  k_steps
  · exact ret _ _ _ _ (by simp only [kindS, *, if_true]) (by assumption) (by assumption)
  · exact ret _ _ _ _ (by simp only [kindS, *]; rfl) (by assumption) (by assumption)
  · exact ret _ _ _ _ (by simp only [kindS, *]; rfl) (by assumption) (by assumption)
  · exact ret _ _ _ _ (by simp only [kindS, *]; rfl) (by assumption) (by assumption)
theorem kind_K {k : Addr} {x : Str} {t : Tok} {o : Obj} {kvs : List (Str × Value)}
    (B : Below A₀ base outer h₀) (F : Fr h₀ L s.heap m) (X : (hd.heap_39 w.params).In h₀) (N : News h₀ L s.heap news)
    (T : Top hd.view_39 (looseW hd.view_39 [Str.ofString "BasicError"]) mean mg mb h₀) (hk : cs.kind = .function) (hm : (k, o) ∈ news)
    (hkd : o.IsDictOf (PySem.strKind PySem.Challenge.rw_pf0005_01.row.prog w) kvs) (lo : (k == sysModules) = false)
    (hd : dp + 1 < recursionLimit) (hu : un + 8 < cLine) (hx : 0 < x.length) (hx2 : x.length ≤ 100) (hv : AllStr kvs)
    (ret : ∀ (t : Tok) h' tk', Fr h₀ L h' m → News h₀ L h' news → InElt s.heap h' → Q (.str (kindS kvs x) t) { s with heap := h', toks := tk' }) :
    wpAny (model PySem.Challenge.rw_pf0005_01.row.prog w) (ktrTop dp un gd cn cs L a ccd cl outer) (call (.ref 44) [.str x t, .ref k]) Q E s :=
  kind_G B F X (fun p h => by rw [List.mem_singleton.mp h]; exact N _ hm) T hk hkd lo hd hu hx hx2 hv fun y t h' tk' e F' I => by
    subst e
    exact ret t h' tk' F' (N.grown I) I
end

/-! Own -/
set_option hygiene false in
local macro_rules | `(tactic| k_mem) => `(tactic| assumption)
theorem rows_2 : True := by
  k_with_none
  k_with "my enter" => ((refine wpAny_call ?_; k_dflt (refine' code_defG ?k1 ?k2 ?k3 ?k4 ?k5 ?kA ?kF ?kK ?k6 ?k7 ?k8 ?k9 ?kB ?_ ?c2 ?c3 ?c4 ?c5; (case kA => exact rfl); (case kF => exact rfl); (case kK => assumption); (case k1 => k_asm); (case k2 => k_asm); (case k3 => k_asm); (case k4 => k_asm); (case k5 => k_asm); (case k6 => k_is); (case k7 => k_is); (case k8 => ktr_room); (case k9 => exact BindsTo.of_eq rfl); (case c5 => decide); (case kB => exact locs rfl); (case c2 => exact rfl); (case c3 => exact rfl); (case c4 => exact rfl); k_whole; intro g' L' h' FG' F' N' B' X' T' kG'; (try dsimp only); (try k_lift B'); (try k_fold))))
  k_with "call builtin:dict.get" => ((k_here; k_dflt (refine get_str (by k_asm) (by k_mem) (by k_asm) (by k_asm) (by assumption) ?_); intro u'))
  k_with "compareOp In str str" => (first
        | ((with_reducible rename Txt.item _ _ = Str.ofString _ => hl9); rw [hl9]; refine in_known true (by decide +kernel) ?_)
        | (refine in_known false (by assumption) ?_))
  k_with "call builtin:str.index" => (((with_reducible rename Txt.item _ _ = Str.ofString _ => hl9); rw [hl9]; first
        | refine index_known 0 (by rfl) (by decide +kernel) (by decide) ?_
        | refine index_known 1 (by rfl) (by decide +kernel) (by decide) ?_
        | refine index_known 2 (by rfl) (by decide +kernel) (by decide) ?_))
  k_with "ite" => (first | with_reducible refine ite_tt ?_ | with_reducible refine ite_ff ?_)
  k_with "getMethod ref" => ((k_here; k_dflt (refine kdg_method (knd := PySem.strKind _ _) (by k_asm) (by k_mem) (by k_asm) ?_)))
  trivial
theorem in_known {prog : Program} {w : World} {A : Around} {E Q : Value → Shared → Prop} {s : Shared} {x y : Str} {t u : Tok} (b : Bool) (e : (!(Builtin.Str.occurrences y x 0 y.length 1).isEmpty) = b) (h : Q (.bool b) s) :
    wpAny (model prog w) A (compareOp .In (.str x t) (.str y u)) Q E s := by
  subst e
  exact in_str h
theorem index_known {prog : Program} {w : World} {A : Around} {E Q : Value → Shared → Prop} {s : Shared} {x y : Str} {t u : Tok} (i : Int) (hA : A.handled = none) (e : Txt.find x y = i) (h0 : 0 ≤ i) (h : Q (.int i s.toks) { s with toks := s.toks + 1 }) :
    wpAny (model prog w) A (call (.builtin "str.index") [.str x t, .str y u]) Q E s := by
  subst e
  exact index_or hA (fun e _ => by omega) fun _ _ => h
section
variable {w : World} {mean : ExcName → Option Value} {mg mb : Str → Option Value} {dp un : Nat} {gd : Option (List Code)} {cn : Str} {cs : Scope} {a : Addr} {ccd : Value} {cl : List (Str × Addr)} {outer : List Env} {A₀ : Around} {base h₀ : Heap} {L : Addr} {m : Str → Option Value} {s : Shared} {Q E : Value → Shared → Prop} {news news' : List (Addr × Obj)}
/-- the last sign's number -/
def lastC (x : Str) : Nat := (Txt.charAt x (-1)).getD 0
abbrev tupOf (vs : List Value) : Obj := { cls := .type "tuple", data := .seq vs.toArray }
/-- what _law_own_kind gives: the kind; whether it is the name's own -/
def ownK (kvs : List (Str × Value)) (x : Str) : Str :=
  if lastC x = 36 then Str.ofString "text" else if lastC x = 37 then Str.ofString "whole" else if lastC x = 33 then Str.ofString "decimal" else getS kvs (Txt.item x 0) (Str.ofString "decimal")
def ownB (kvs : List (Str × Value)) (x : Str) : Bool :=
  if lastC x = 36 then true else if lastC x = 37 then true else if lastC x = 33 then true else (getS kvs (Txt.item x 0) (Str.ofString "decimal") == Str.ofString "decimal")
theorem news_tail {h₀ h : Heap} {L : Addr} {p q : Addr × Obj} {news : List (Addr × Obj)} (N : News h₀ L h (p :: q :: news)) : News h₀ L h (p :: news) :=
  fun r hr => N r (by rcases List.mem_cons.mp hr with rfl | hr; exact .head _; exact .tail _ (.tail _ hr))
theorem own_K {k : Addr} {x : Str} {t : Tok} {o : Obj} {kvs : List (Str × Value)}
    (B : Below A₀ base outer h₀) (F : Fr h₀ L s.heap m) (X : (hd.heap_39 w.params).In h₀) (N : News h₀ L s.heap news)
    (T : Top hd.view_39 (looseW hd.view_39 [Str.ofString "BasicError"]) mean mg mb h₀) (hk : cs.kind = .function) (hm : (k, o) ∈ news)
    (hkd : o.IsDictOf (PySem.strKind PySem.Challenge.rw_pf0005_01.row.prog w) kvs) (lo : (k == sysModules) = false)
    (hd : dp + 1 < recursionLimit) (_hu : un + 8 < cLine) (hx : 0 < x.length) (hx2 : x.length ≤ 100) (hv : AllStr kvs)
    (ret : ∀ (q : Addr) (t : Tok) h' tk', Fr h₀ L h' m → News h₀ L h' ((q, tupOf [.str (ownK kvs x) t, .bool (ownB kvs x)]) :: news) → AllLt q news → Q (.ref q) { s with heap := h', toks := tk' }) :
    wpAny (model PySem.Challenge.rw_pf0005_01.row.prog w) (ktrTop dp un gd cn cs L a ccd cl outer) (call (.ref 153) [.str x t, .ref k]) Q E s := by
  by_cases h1 : lastC x = 36
  · have hl : Txt.item x (-1) = Str.ofString "$" := by show (⟨#[lastC x]⟩ : Str) = _; rw [h1]; decide +kernel
    walk_at "my enter"
    k_steps
    · refine' ret _ _ _ _ ?f ?n ?l
      case f => assumption
      case n => simp only [ownK, ownB, h1, if_true]; exact news_tail (by assumption)
      case l => exact And.right (by assumption : @LT.lt Nat _ _ _ ∧ AllLt _ news)
  by_cases h2 : lastC x = 37
  · have hl : Txt.item x (-1) = Str.ofString "%" := by show (⟨#[lastC x]⟩ : Str) = _; rw [h2]; decide +kernel
    walk_at "my enter"
    k_steps
    · refine' ret _ _ _ _ ?f ?n ?l
      case f => assumption
      case n => simp only [ownK, ownB, h1, h2, if_true, if_false]; exact news_tail (by assumption)
      case l => exact And.right (by assumption : @LT.lt Nat _ _ _ ∧ AllLt _ news)
  by_cases h3 : lastC x = 33
  · have hl : Txt.item x (-1) = Str.ofString "!" := by show (⟨#[lastC x]⟩ : Str) = _; rw [h3]; decide +kernel
    walk_at "my enter"
    k_steps
    · refine' ret _ _ _ _ ?f ?n ?l
      case f => assumption
      case n => simp only [ownK, ownB, h1, h2, h3, if_true, if_false]; exact news_tail (by assumption)
      case l => exact And.right (by assumption : @LT.lt Nat _ _ _ ∧ AllLt _ news)
  · have hn : (!(Builtin.Str.occurrences (Str.ofString "$%!") (Txt.item x (-1)) 0 (Str.ofString "$%!").length 1).isEmpty) = false := by
      show (!(Builtin.Str.occurrences (Str.ofString "$%!") (⟨#[lastC x]⟩ : Str) 0 (Str.ofString "$%!").length 1).isEmpty) = false
      rw [StrLaws.found_one]
      have e : (Str.ofString "$%!").cps.toList = [36, 37, 33] := by decide +kernel
      rw [e]
      simp [h1, h2, h3]
    walk_at "my enter"
    k_steps
    refine' ret _ _ _ _ ?f ?n ?l
    case f => assumption
    case n => simp only [ownK, ownB, h1, h2, h3, if_false]; assumption
    case l => first | assumption | exact allLt_of (by assumption)
end

/-! Means -/
theorem rows_3 : True := by
  k_with_none
  k_with "my enter" => ((refine wpAny_call ?_; k_dflt (refine' code_defG ?k1 ?k2 ?k3 ?k4 ?k5 ?kA ?kF ?kK ?k6 ?k7 ?k8 ?k9 ?kB ?_ ?c2 ?c3 ?c4 ?c5; (case kA => exact rfl); (case kF => exact rfl); (case kK => assumption); (case k1 => k_asm); (case k2 => k_asm); (case k3 => k_asm); (case k4 => k_asm); (case k5 => k_asm); (case k6 => k_is); (case k7 => k_is); (case k8 => ktr_room); (case k9 => exact BindsTo.of_eq rfl); (case c5 => decide); (case kB => exact locs rfl); (case c2 => exact rfl); (case c3 => exact rfl); (case c4 => exact rfl); k_whole; intro g' L' h' FG' F' N' B' X' T' kG'; (try dsimp only); (try k_lift B'); (try k_fold))))
  k_with "ite" => (first | with_reducible refine ite_tt ?_ | with_reducible refine ite_ff ?_)
  k_with "call ref" => ((k_here; k_dflt (refine' kind_K ?k1 ?k2 ?k3 ?k4 ?k5 ?k6 ?k7 ?k8 ?k9 ?ka ?kb ?kc ?kd ?ke ?_; (case k1 => k_asm); (case k2 => k_asm); (case k3 => k_asm); (case k4 => k_asm); (case k5 => k_asm); (case k6 => first | exact rfl | assumption); (case k7 => k_mem); (case k8 => k_asm); (case k9 => k_asm); (case ka => ktr_room); (case kb => ktr_units); (case kc => first | assumption | omega); (case kd => first | assumption | omega); (case ke => first | assumption | exact allStr_nil); k_whole; intro t' h' tk' F' N' cE')))
  k_with "getAttr ref" => ((k_here; k_dflt (refine' get_own ?F ?X ?I ?g ?h ?a ?n ?l ?v ?_; (case F => k_asm); (case X => k_asm); (case I => k_inst); (case g => k_is); (case h => k_is); (case a => k_is); (case n => k_is); (case l => assumption); (case v => k_handed); k_whole)))
  trivial
theorem allStr_nil : AllStr [] := fun _ _ h => nomatch h
section
variable {w : World} {mean : ExcName → Option Value} {mg mb : Str → Option Value} {dp un : Nat} {gd : Option (List Code)} {cn : Str} {cs : Scope} {a : Addr} {ccd : Value} {cl : List (Str × Addr)} {outer : List Env} {A₀ : Around} {base h₀ : Heap} {L : Addr} {m : Str → Option Value} {s : Shared} {Q E : Value → Shared → Prop} {news news' : List (Addr × Obj)}
/-- a word that tells an array -/
def isArr (x : Str) : Bool := Txt.slice x (some (-2)) none == Str.ofString "()"
theorem isarr_K {x : Str} {t : Tok}
    (B : Below A₀ base outer h₀) (F : Fr h₀ L s.heap m) (X : (hd.heap_39 w.params).In h₀) (N : News h₀ L s.heap news)
    (T : Top hd.view_39 (looseW hd.view_39 [Str.ofString "BasicError"]) mean mg mb h₀) (hk : cs.kind = .function)
    (hd : dp + 1 < recursionLimit) (_hu : un + 8 < cLine) (hx : 0 < x.length) (hx2 : x.length ≤ 100)
    (ret : ∀ h' tk', Fr h₀ L h' m → News h₀ L h' news → Q (.bool (isArr x)) { s with heap := h', toks := tk' }) :
    wpAny (model PySem.Challenge.rw_pf0005_01.row.prog w) (ktrTop dp un gd cn cs L a ccd cl outer) (call (.ref 72) [.str x t]) Q E s := by
  walk_at "my enter"
  k_steps
  exact ret _ _ (by assumption) (by assumption)
theorem means_K {k xA dx : Addr} {x : Str} {t : Tok} {o : Obj} {kvs : List (Str × Value)} {es : List DictEntry} {n : Nat} {sl : Array (Option Value)}
    (B : Below A₀ base outer h₀) (F : Fr h₀ L s.heap m) (X : (hd.heap_39 w.params).In h₀) (N : News h₀ L s.heap news)
    (T : Top hd.view_39 (looseW hd.view_39 [Str.ofString "BasicError"]) mean mg mb h₀) (hk : cs.kind = .function)
    (hm : (k, o) ∈ news) (hm1 : (xA, (⟨.ref 114, some dx, .plain, sl⟩ : Obj)) ∈ news) (hm2 : (dx, dictOf es n) ∈ news) (hg : getL (Str.ofString "kinds") es = some (some (.ref k)))
    (hkd : o.IsDictOf (PySem.strKind PySem.Challenge.rw_pf0005_01.row.prog w) kvs) (lo : (k == sysModules) = false)
    (hd : dp + 2 < recursionLimit) (_hu : un + 16 < cLine) (hx : 0 < x.length) (hx2 : x.length ≤ 100) (hv : AllStr kvs)
    (ret : ∀ h' tk', Fr h₀ L h' m → News h₀ L h' news → Q (.bool (kindS [] x == kindS kvs x)) { s with heap := h', toks := tk' }) :
    wpAny (model PySem.Challenge.rw_pf0005_01.row.prog w) (ktrTop dp un gd cn cs L a ccd cl outer) (call (.ref 79) [.ref xA, .str x t]) Q E s := by
  walk_at "my enter"
  k_steps
  exact ret _ _ (by assumption) (fun p hp => (by assumption : News h₀ L _ (_ :: news)) p (.tail _ hp))
end

/-! DPairs -/
theorem lk_list_keys : typeLookup (.type "list") "keys" = pure none := by rw [typeLookup_type, builtinLookup_eq_fast]; kernel_rfl
theorem lk_list_getattr : typeLookup (.type "list") "__getattr__" = pure none := by rw [typeLookup_type, builtinLookup_eq_fast]; kernel_rfl
theorem first_attr : ((Manifest.find? "AttributeError").elim false fun t => t.mro.contains "StopIteration" || t.mro.contains "SystemExit") = false := by decide +kernel
theorem sub_attr : isSubtype (.type "AttributeError") (.type "AttributeError") = pure true := by rw [isSubtype_type]; kernel_rfl
section
variable {prog : Program} {w : World} {A : Around} {E : Value → Shared → Prop} {h : Heap} {g : Array GenState} {d : Drawn} {t : Nat} {os : OsState} {a : Addr} {its : Array Value} {ep : Nat}
theorem raise_attr {α : Type} {Q : α → Shared → Prop} {ob : Value} {name msg : Str} (hA : A.handled = none) (hm : msg.length ≤ sizeLine)
    (hq : ∀ e h' tk, (∀ b ob, h.get? b = some ob → h'.get? b = some ob) → (⟨h', g, d, tk, os⟩ : Shared).TypeIs (.ref e) "AttributeError" → E (.ref e) ⟨h', g, d, tk, os⟩) :
    wpAny (model prog w) A (raiseAttrError ob name msg : Sem α) Q E ⟨h, g, d, t, os⟩ := by
  unfold raiseAttrError
  refine wpAny_bind (wpAny_mkStr ?_ hm)
  refine wpAny_bind ?_
  unfold newExc newTuple
  refine wpAny_bind (wpAny_newObj_type ?_ (by show [_].toArray.size ≤ sizeLine; rw [sizeLine_eq]; exact Nat.le_of_ble_eq_true rfl))
  refine wpAny_bind (m := firstArgMember _ _) (wpAny_of_eq (a := Value.none) (by simp only [firstArgMember, first_attr]; rfl) ?_)
  refine wpAny_newObj_type ?_ (by show Array.size _ ≤ sizeLine + 2; rw [sizeLine_eq]; exact Nat.le_of_ble_eq_true rfl)
  have f1 := sub_attr
  dsimp only
  generalize hH1 : h.push { cls := .type "tuple", dict := none, data := Data.seq [Value.str msg t].toArray } = H1
  have k1 : ∀ b ob, h.get? b = some ob → H1.get? b = some ob := fun b ob e => hH1 ▸ Heap.get?_push_of_some _ e
  clear hH1
  generalize hO : ({ cls := Value.type "AttributeError", dict := none, data := Data.fields (#[Value.ref h.objs.size, Value.none, Value.none, Value.none, Value.bool false, Value.none] ++ ownMembersOf (Value.type "AttributeError") [Value.str msg t]) } : Obj) = O
  have hfr : O.isFreed = false := by rw [← hO]; rfl
  have hx : (H1.push O).get? H1.objs.size = some O := Heap.get?_push_size _ hfr
  have k2 : ∀ b ob, h.get? b = some ob → (H1.push O).get? b = some ob := fun b ob e => Heap.get?_push_of_some _ (k1 b ob e)
  have kne : ∀ b ob, h.get? b = some ob → b ≠ H1.objs.size := fun b ob e q => absurd (Heap.lt_size (k1 b ob e)) (by rw [q]; exact Nat.lt_irrefl _)
  generalize H1.push O = H2 at hx k2 ⊢
  generalize H1.objs.size = e at hx kne ⊢
  subst hO
  have hT : ∀ tk, (⟨H2, g, d, tk, os⟩ : Shared).TypeIs (.ref e) "AttributeError" := fun tk => ⟨_, hx, rfl⟩
  have hT1 := hT (t + 1)
  have hT2 := hT (t + 1 + 1)
  repeat (any_goals (first | assumption | wp_step))
  refine wpAny_raiseNew_none hA (hq e _ _ (fun b ob q => ?_) ⟨_, Heap.get?_update_self _ hx rfl, rfl⟩)
  exact Heap.get?_update_of_ne _ (Ne.symm (kne b ob q)) (k2 b ob q)
theorem miss_entry {tk : Tok} {Q : Fin → Shared → Prop} (hA : A.handled = none) (hx : h.get? a = some { cls := .type "list", data := .seq its ep })
    (hq : ∀ e h' tk, (∀ b ob, h.get? b = some ob → h'.get? b = some ob) → (⟨h', g, d, tk, os⟩ : Shared).TypeIs (.ref e) "AttributeError" → E (.ref e) ⟨h', g, d, tk, os⟩) :
    wpAny (model prog w) A (Builtin.«object.__getattribute__» ⟨[.ref a, .str "keys" tk], []⟩) Q E ⟨h, g, d, t, os⟩ := by
  have hT : (⟨h, g, d, t, os⟩ : Shared).TypeIs (.ref a) "list" := ⟨_, hx, rfl⟩
  have f4 := lk_list_keys
  have f5 := lk_list_getattr
  repeat (any_goals (first | assumption | wp_step))
  exact raise_attr hA (by decide +kernel) hq
theorem miss_call {tk : Tok} {R : Result → Shared → Prop} (hA : A.handled = none) (hx : h.get? a = some { cls := .type "list", data := .seq its ep })
    (hq : ∀ e h' tk, (∀ b ob, h.get? b = some ob → h'.get? b = some ob) → (⟨h', g, d, tk, os⟩ : Shared).TypeIs (.ref e) "AttributeError" → R (.error (.ref e)) ⟨h', g, d, tk, os⟩) :
    codeAny (model prog w) A (.call (.builtin "list.__getattribute__") ⟨[.ref a, .str "keys" tk], []⟩) R ⟨h, g, d, t, os⟩ :=
  codeAny_call_builtin F.slot_list_getattribute.plain F.entry_list_ga (F.slot_list_getattribute.check _ _ _ _ _ _ _ _ (show (⟨h, g, d, t, os⟩ : Shared).TypeIs (.ref a) "list" from ⟨_, hx, rfl⟩) (F.args_list_getattribute_2 _ _) (miss_entry hA hx hq))

theorem miss_by {tk : Tok} {Q : Value → Shared → Prop} (hA : A.handled = none) (hx : h.get? a = some { cls := .type "list", data := .seq its ep })
    (hq : ∀ e h' tk, (∀ b ob, h.get? b = some ob → h'.get? b = some ob) → (⟨h', g, d, tk, os⟩ : Shared).TypeIs (.ref e) "AttributeError" → E (.ref e) ⟨h', g, d, tk, os⟩) :
    wpAny (model prog w) A (getAttrBy (.ref a) (.str "keys" tk) false) Q E ⟨h, g, d, t, os⟩ := by
  have hT : (⟨h, g, d, t, os⟩ : Shared).TypeIs (.ref a) "list" := ⟨_, hx, rfl⟩
  have f2 := F.slot_list_getattribute.lookup
  have f3 := F.slot_list_getattribute.bind (.ref a)
  have f5 := lk_list_getattr
  have f6 := sub_attr
  repeat (any_goals (first | assumption | wp_step))
  refine miss_call hA hx fun e h' tk' k hE => ?_
  have hq' := hq e h' tk' k hE
  repeat (any_goals (first | assumption | wp_step))

theorem miss_attr {Q : Option Value → Shared → Prop} (hA : A.handled = none) (hx : h.get? a = some { cls := .type "list", data := .seq its ep })
    (hq : ∀ h' tk, (∀ b ob, h.get? b = some ob → h'.get? b = some ob) → Q none ⟨h', g, d, tk, os⟩) :
    wpAny (model prog w) A (getAttr? (.ref a) "keys") Q E ⟨h, g, d, t, os⟩ := by
  unfold getAttr? getAttrBy?
  have f6 := sub_attr
  refine wpAny_bind ?_
  refine wpAny_mkText ?_
  refine wpAny_bind (wpAny_attempt (miss_by hA hx fun e h' tk' k hE => ?_))
  have hq' := hq h' tk' k
  repeat (any_goals (first | assumption | wp_step))
end

/-! DPairs2 -/
def storeAll {K : Type} [DecidableEq K] (kvs : List (K × Value)) (ps : List (K × Value)) : List (K × Value) := ps.foldl (fun c p => stored c p.1 p.2) kvs
theorem storeAll_len {K : Type} [DecidableEq K] (ps : List (K × Value)) : ∀ kvs : List (K × Value), (storeAll kvs ps).length ≤ kvs.length + ps.length := by
  induction ps with
  | nil => intro kvs; exact Nat.le_refl _
  | cons p r ih =>
    intro kvs
    have h1 := ih (stored kvs p.1 p.2)
    have h2 := stored_length_le kvs p.1 p.2
    show (storeAll (stored kvs p.1 p.2) r).length ≤ _
    rw [List.length_cons]
    omega
section
variable {prog : Program} {w : World} {K : Type} [DecidableEq K] {knd : KeyKind prog w K}
/-- the items are pairs -/
def PairsAt (knd : KeyKind prog w K) (h : Heap) (its : List Value) (ps : List (K × Value)) : Prop :=
  its.length = ps.length ∧ ∀ (j : Nat) (v : Value), its[j]? = some v → ∃ a key k x, v = .ref a ∧ ps[j]? = some (k, x) ∧ knd.is k key = true ∧ h.get? a = some { cls := .type "tuple", data := .seq #[key, x] }
theorem entry_upd_loop : entryFor table "dict.update.loop" = some Builtin.«dict.update.loop» := entryFor_of_fast (by kernel_rfl)
theorem plain_upd_loop : plainId "dict.update.loop" = true := by decide +kernel
variable {A : Around} {E : Value → Shared → Prop} {s : Shared} {R : Result → Shared → Prop} {its : List Value} {ps : List (K × Value)} {h₁ : Heap} {l I d : Addr}
theorem pairs_loop (hh : A.handled = none) (hId : d ≠ I) (hlI : l ≠ I) (hld : l ≠ d) (res : Value) (hP : PairsAt knd h₁ its ps) (hne : ∀ a ob, h₁.get? a = some ob → a ≠ d ∧ a ≠ I)
    (hz : ps.length ≤ 1000)
    (hR : ∀ h' tk, (∀ b o, b ≠ d → b ≠ I → h₁.get? b = some o → h'.get? b = some o) → h'.DictOf knd d (storeAll [] ps) → R (.ok (.ret res)) { s with heap := h', toks := tk }) :
    ∀ (k i : Nat) (h : Heap) (tk : Nat) (u : Int), ps.length - i = k → i ≤ ps.length → h.IsListIter I l i → h.IsList l its.toArray → h.DictOf knd d (storeAll [] (ps.take i)) → (∀ b o, b ≠ d → b ≠ I → h₁.get? b = some o → h.get? b = some o) →
      codeAny (model prog w) A (.builtin "dict.update.loop" ⟨[.ref d, .ref I, rawInt u, res], []⟩) R { s with heap := h, toks := tk } := by
  intro k
  induction k with
  | zero =>
    intro i h tk u hk hi hit hl hD hkeep
    have hin : i = ps.length := by omega
    refine codeAny_builtin entry_upd_loop ?_
    rw [Around.under_plainId plain_upd_loop _]
    show wpAny _ A.in1 (pyNext (.ref I) >>= _) _ _ _
    refine wpAny_bind (wpAny_pyNext_list_end (s := { s with heap := h, toks := tk }) (A := A.in1) hh hit hl (by rw [List.getElem?_toArray]; exact List.getElem?_eq_none (by rw [hP.1]; omega)) fun h' he => ?_)
    refine wpAny_bind (wpAny_pure (wpAny_pure ?_))
    refine hR h' tk (fun b o h1 h2 e => he b o h2 (hkeep b o h1 h2 e)) ?_
    rw [hin, List.take_length] at hD
    exact hD.extBut he hId
  | succ k ih =>
    intro i h tk u hk hi hit hl hD hkeep
    have hlt : i < ps.length := by omega
    obtain ⟨v, hv⟩ : ∃ v, its[i]? = some v := ⟨its[i]'(by rw [hP.1]; exact hlt), List.getElem?_eq_getElem _⟩
    obtain ⟨a, key, kk, x, rfl, hps, hkey, ha⟩ := hP.2 i v hv
    obtain ⟨n1, n2⟩ := hne a _ ha
    refine codeAny_builtin entry_upd_loop ?_
    rw [Around.under_plainId plain_upd_loop _]
    show wpAny _ A.in1 (pyNext (.ref I) >>= _) _ _ _
    refine wpAny_bind (wpAny_pyNext_list_item (s := { s with heap := h, toks := tk }) hit hl (x := .ref a) (by rw [List.getElem?_toArray]; exact hv) fun h' hit' hs' => ?_)
    have ha' : h'.get? a = some { cls := .type "tuple", data := .seq #[key, x] } := hs'.extBut a _ n2 (hkeep a _ n1 n2 ha)
    refine wpAny_bind (wpAny_holding ?_)
    have hT : (⟨h', s.gens, s.drawn, tk, s.os⟩ : Shared).TypeIs (.ref a) "tuple" := ⟨_, ha', rfl⟩
    refine wpAny_bind (wpAny_tryCatch ?_)
    unfold Builtin.Dict.pairItems
    refine wpAny_bind (wpAny_typeOf hT ?_)
    refine wpAny_ite_split (fun _ => ?_) (fun hab => absurd (by decide) hab)
    refine wpAny_bind (wpAny_seqItems ha' rfl ?_)
    refine wpAny_pure ?_
    show wpAny _ _ (holding [key, x] (dictSet d key x)) _ _ _
    have hlen : (storeAll [] (ps.take i)).length ≤ sizeLine := by
      have := storeAll_len (ps.take i) ([] : List (K × Value))
      rw [List.length_take, List.length_nil] at this
      rw [sizeLine_eq]
      omega
    refine wpAny_holding (wpAny_dictSet_pairs (s := ⟨h', s.gens, s.drawn, tk, s.os⟩) (hsz := hlen) hkey (hD.extBut hs'.extBut hId) fun h₂ hD₂ hs₂ => ?_)
    refine wpAny_pure ⟨plainId_quiet plain_upd_loop _, ih (i + 1) h₂ _ (u + 1) (by omega) hlt ?_ ?_ ?_ fun b o h1 h2 e => hs₂.extBut b o h1 (hs'.extBut b o h2 (hkeep b o h1 h2 e))⟩
    · obtain ⟨oi, e1, e2, e3⟩ := hit'
      exact ⟨oi, hs₂.extBut I _ (Ne.symm hId) e1, e2, e3⟩
    · exact (hl.extBut hs'.extBut hlI).extBut hs₂.extBut hld
    · have e : storeAll [] (ps.take (i + 1)) = stored (storeAll ([] : List (K × Value)) (ps.take i)) kk x := by
        rw [List.take_add_one, hps]
        show List.foldl _ _ (List.take i ps ++ [(kk, x)]) = _
        rw [List.foldl_append]
        rfl
      rw [e]
      exact hD₂
theorem call_dict_pairs {Q : Value → Shared → Prop} (hh : A.handled = none) {ep : Nat} (hl : s.heap.get? l = some { cls := .type "list", data := .seq its.toArray ep }) (hP : PairsAt knd s.heap its ps) (hz : ps.length ≤ 1000)
    (h : ∀ h' tk, h'.DictOf knd s.heap.objs.size (storeAll [] ps) → (∀ b o, s.heap.get? b = some o → h'.get? b = some o) → Q (.ref s.heap.objs.size) { s with heap := h', toks := tk }) :
    wpAny (model prog w) A (call (.type "dict") [.ref l]) Q E s := by
  refine callType_codes (Q₁ := fun obj s₁ => obj = .ref s.heap.objs.size ∧ s₁ = { s with heap := s.heap.push { cls := .type "dict", data := .dict #[] } }) F.kt_called_dict (F.kt_typeCall_dict_1 _) F.entry_dict_init (kt_code_dict_new _ ⟨rfl, rfl⟩) ?_
  rintro obj s₁ ⟨rfl, rfl⟩
  have hnew : (s.heap.push { cls := .type "dict", data := .dict #[] }).DictOf knd s.heap.objs.size [] := Heap.DictOf.new s.heap
  have hl' := Heap.get?_push_of_some { cls := .type "dict", data := .dict #[] } hl
  have hlt := Heap.lt_size hl
  refine ⟨hnew.typeIs, F.args_dict_init_2 _ _, ?_⟩
  unfold Builtin.«dict.__init__»
  refine wpAny_bind ?_
  unfold Builtin.Dict.selfAndRest
  refine wpAny_bind (wpAny_notOrdered_dict hnew.typeIs ?_)
  show wpAny _ _ (pure (s.heap.objs.size, [Value.ref l])) _ _ _
  refine wpAny_pure ?_
  show wpAny _ _ (Builtin.Dict.updateFrom "dict.__init__" s.heap.objs.size (.ref l) [] .none) _ _ _
  unfold Builtin.Dict.updateFrom
  refine wpAny_bind (wpAny_typeOf (T := "list") ⟨_, hl', rfl⟩ ?_)
  refine wpAny_ite_split (fun _ => ?_) (fun hab => absurd (by decide) hab)
  refine wpAny_bind (miss_attr hh hl' fun h₂ tk₂ k₂ => ?_)
  refine wpAny_ite_split (fun _ => ?_) (fun hab => absurd rfl hab)
  refine wpAny_bind (wpAny_rule ?_)
  have hl₂ := k₂ _ _ hl'
  refine wpAny_bind (wpAny_pyIter_list (l := l) (items := its.toArray) ⟨_, hl₂, rfl, _, rfl⟩ ?_)
  have hnew₂ : h₂.DictOf knd s.heap.objs.size [] := hnew.keep k₂
  have hdlt : s.heap.objs.size < h₂.objs.size := let ⟨_, _, _, e, _⟩ := hnew₂; Heap.lt_size e
  refine wpAny_pure ⟨plainId_quiet plain_upd_loop _, ?_⟩
  have up : ∀ b o, s.heap.get? b = some o → h₂.get? b = some o := fun b o e => k₂ b o (Heap.get?_push_of_some _ e)
  refine pairs_loop (A := A.in1) (R := wants (fun r s₂ => r = .none ∧ Q (.ref s.heap.objs.size) s₂) E) (knd := knd) (h₁ := s.heap) (its := its) (ps := ps) (I := h₂.objs.size) (l := l) (d := s.heap.objs.size) (s := s) hh (Nat.ne_of_lt hdlt) (Nat.ne_of_lt (Nat.lt_trans hlt hdlt)) (Nat.ne_of_lt hlt) .none hP
    (fun a ob e => ⟨Nat.ne_of_lt (Heap.lt_size e), Nat.ne_of_lt (Nat.lt_trans (Heap.lt_size e) hdlt)⟩) hz (fun h' tk hk hD => ⟨rfl, h h' tk hD fun b o e => hk b o (Nat.ne_of_lt (Heap.lt_size e)) (Nat.ne_of_lt (Nat.lt_trans (Heap.lt_size e) hdlt)) e⟩)
    ps.length 0 (h₂.push { cls := .type "list_iterator", data := .fields #[.ref l, .int 0 0] }) tk₂ 0 (Nat.sub_zero _) (Nat.zero_le _) ⟨_, Heap.get?_push_size _ rfl, rfl, rfl⟩ ⟨_, Heap.get?_push_of_some _ hl₂, rfl, _, rfl⟩ ?_ (fun b o _ _ e => Heap.get?_push_of_some _ (up b o e))
  rw [List.take_zero]
  exact hnew₂.push _
end
/-- the items are tuples of the ledger that bear these pairs -/
def PairsIn (nw : List (Addr × Obj)) (its : List Value) (ps : List (Str × Value)) : Prop :=
  its.length = ps.length ∧ ∀ (j : Nat) (v : Value), its[j]? = some v → ∃ a t k x, v = .ref a ∧ ps[j]? = some (k, x) ∧ (a, ({ cls := .type "tuple", data := .seq [Value.str k t, x].toArray } : Obj)) ∈ nw
theorem pairsIn_nil {nw : List (Addr × Obj)} : PairsIn nw [] [] := ⟨rfl, fun j v h => by simp at h⟩
theorem pairsIn_sub {nw nw' : List (Addr × Obj)} {its : List Value} {ps : List (Str × Value)} (h : PairsIn nw its ps) (k : ∀ q ∈ nw, q ∈ nw') : PairsIn nw' its ps :=
  ⟨h.1, fun j v e => let ⟨a, t, kk, x, e1, e2, e3⟩ := h.2 j v e; ⟨a, t, kk, x, e1, e2, k _ e3⟩⟩
theorem pairsIn_snoc {nw : List (Addr × Obj)} {its : List Value} {ps : List (Str × Value)} {a : Addr} {k : Str} {t : Tok} {x : Value} (h : PairsIn nw its ps) : PairsIn ((a, { cls := .type "tuple", data := .seq [Value.str k t, x].toArray }) :: nw) (its ++ [.ref a]) (ps ++ [(k, x)]) := by
  refine ⟨by simp [h.1], fun j v e => ?_⟩
  rcases Nat.lt_trichotomy j its.length with hj | hj | hj
  · rw [List.getElem?_append_left hj] at e
    obtain ⟨b, t', kk, y, e1, e2, e3⟩ := h.2 j v e
    exact ⟨b, t', kk, y, e1, by rw [List.getElem?_append_left (by rw [← h.1]; exact hj)]; exact e2, .tail _ e3⟩
  · subst hj
    simp at e
    subst e
    exact ⟨a, t, k, x, rfl, by rw [h.1]; simp, .head _⟩
  · rw [List.getElem?_eq_none (by rw [List.length_append, List.length_singleton]; omega)] at e
    cases e
theorem dict_pairs_K {prog : Program} {w : World} {A : Around} {E Q : Value → Shared → Prop} {s : Shared} {h₀ : Heap} {L l : Addr} {m : Str → Option Value} {news : List (Addr × Obj)} {its : List Value} {ps : List (Str × Value)} {ep : Nat}
    (hh : A.handled = none) (F : Fr h₀ L s.heap m) (N : News h₀ L s.heap news) (hbig : sysModules < h₀.objs.size) (hm : (l, ({ cls := .type "list", data := .seq its.toArray ep } : Obj)) ∈ news) (hP : PairsIn news its ps) (hz : ps.length ≤ 1000)
    (k : ∀ d o h' tk', Fr h₀ L h' m → News h₀ L h' ((d, o) :: news) → AllLt d news → (d == sysModules) = false → o.IsDictOf (PySem.strKind prog w) (storeAll [] ps) → Q (.ref d) { s with heap := h', toks := tk' }) :
    wpAny (model prog w) A (call (.type "dict") [.ref l]) Q E s := by
  refine call_dict_pairs (knd := PySem.strKind prog w) (ps := ps) hh (N _ hm).1 ⟨hP.1, fun j v e => ?_⟩ hz fun h' tk hD hk => ?_
  · obtain ⟨a, t, kk, x, e1, e2, e3⟩ := hP.2 j v e
    exact ⟨a, _, kk, x, e1, e2, strKind_is _ _ _ _, (N _ e3).1⟩
  · obtain ⟨o, ho, hd⟩ := Heap.dictOf_iff.mp hD
    have hn : h₀.get? s.heap.objs.size = none := by
      cases e : h₀.get? s.heap.objs.size with
      | none => rfl
      | some o => exact absurd (Heap.lt_size (F.keep _ _ e)) (Nat.lt_irrefl _)
    refine k _ o h' tk (F.keeps hk) (fun p hp => ?_) (allLt_of fun p hp => Heap.lt_size (N p hp).1) (F.notModules hbig) hd
    rcases List.mem_cons.mp hp with rfl | hp
    · exact ⟨ho, Nat.ne_of_gt F.ns.lt, hn⟩
    · exact N.grown hk p hp

/-! DPairs3 -/
section
variable {prog : Program} {w : World} {A : Around} {E Q : Value → Shared → Prop} {s : Shared} {h₀ : Heap} {L : Addr} {m : Str → Option Value} {news : List (Addr × Obj)}
theorem fresh_at {h h₀ : Heap} {L a : Addr} {m : Str → Option Value} (F : Fr h₀ L h m) (hb : h.objs.size ≤ a) : a ≠ L ∧ h₀.get? a = none := by
  refine ⟨Nat.ne_of_gt (Nat.lt_of_lt_of_le F.ns.lt hb), ?_⟩
  cases e : h₀.get? a with
  | none => rfl
  | some o => exact absurd (Heap.lt_size (F.keep _ _ e)) (Nat.not_lt.mpr hb)
/-- list(d.items()): a list of pairs; the pairs lie behind it -/
theorem list_items_K {v d : Addr} {od : Obj} {kvs : List (Str × Value)} (hh : A.handled = none) (F : Fr h₀ L s.heap m) (N : News h₀ L s.heap news) (hvw : (v, ({ cls := .type "dict_items", data := .fields #[.ref d] } : Obj)) ∈ news) (hmd : (d, od) ∈ news)
    (hod : od.IsDictOf (PySem.strKind prog w) kvs) (hn : kvs.length ≤ 1000)
    (k : ∀ S its c extra h' tk', Fr h₀ L h' m → News h₀ L h' ((S, ({ cls := .type "list", data := .seq its.toArray c } : Obj)) :: (extra ++ news)) → PairsIn ((S, ({ cls := .type "list", data := .seq its.toArray c } : Obj)) :: (extra ++ news)) its kvs → Q (.ref S) { s with heap := h', toks := tk' }) :
    wpAny (model prog w) A (call (.type "list") [.ref v]) Q E s := by
  obtain ⟨ep, hat⟩ := KdkAt.of hod
  refine kdx_call (knd := PySem.strKind prog w) (kvs := kvs) (ep := ep) hh ⟨_, (N _ hvw).1, rfl, rfl⟩ (hat.dictAt (N _ hmd).1) (by rw [sizeLine_eq]; omega) fun h' tk acc c as hk hS hl hG hacc => ?_
  have ea : acc = (as.map Value.ref).toArray := by rw [← hacc, Array.toArray_toList]
  subst ea
  let ob : Addr → Obj := fun a => (h'.get? a).getD { cls := .none }
  have hob : ∀ (j : Nat) (a : Addr), as[j]? = some a → ∃ t kk x, kvs[j]? = some (kk, x) ∧ h'.get? a = some { cls := .type "tuple", data := .seq [Value.str kk t, x].toArray } := fun j a hj => by
    obtain ⟨key, kk, x, e1, e2, e3⟩ := hG.pairs j a hj
    obtain ⟨t, rfl⟩ := Value.isStrOf_shape e2
    exact ⟨t, kk, x, e1, e3⟩
  refine k s.heap.objs.size (as.map Value.ref) c (as.map fun a => (a, ob a)) h' tk (F.keeps hk) (fun p hp => ?_) ⟨by rw [List.length_map, hl], fun j v e => ?_⟩
  · rcases List.mem_cons.mp hp with rfl | hp
    · exact ⟨hS, fresh_at F (Nat.le_refl _)⟩
    · rcases List.mem_append.mp hp with hp | hp
      · obtain ⟨a, ha, rfl⟩ := List.mem_map.mp hp
        obtain ⟨j, hj⟩ := List.mem_iff_getElem?.mp ha
        obtain ⟨t, kk, x, _, e3⟩ := hob j a hj
        refine ⟨?_, fresh_at F (Nat.le_of_lt (hG.above a ha))⟩
        show h'.get? a = some ((h'.get? a).getD _)
        rw [e3]; rfl
      · exact N.grown hk p hp
  · rw [List.getElem?_map] at e
    cases hj : as[j]? with
    | none => rw [hj] at e; cases e
    | some a =>
      rw [hj] at e
      cases e
      obtain ⟨t, kk, x, e1, e3⟩ := hob j a hj
      refine ⟨a, t, kk, x, rfl, e1, .tail _ (List.mem_append.mpr (.inl (List.mem_map.mpr ⟨a, List.mem_of_getElem? hj, ?_⟩)))⟩
      show (a, (h'.get? a).getD _) = _
      rw [e3]; rfl
/-- dict(l) where l and its pairs lie ahead of the rest: they are let go -/
theorem dict_pairs_drop {l : Addr} {ob : Obj} {extra : List (Addr × Obj)} {its : List Value} {ps : List (Str × Value)} {ep : Nat}
    (hh : A.handled = none) (F : Fr h₀ L s.heap m) (N : News h₀ L s.heap ((l, ob) :: (extra ++ news))) (hbig : sysModules < h₀.objs.size) (hob : ob = ({ cls := .type "list", data := .seq its.toArray ep } : Obj)) (hP : PairsIn ((l, ob) :: (extra ++ news)) its ps) (hz : ps.length ≤ 1000)
    (k : ∀ d o h' tk', Fr h₀ L h' m → News h₀ L h' ((d, o) :: news) → AllLt d news → (d == sysModules) = false → o.IsDictOf (PySem.strKind prog w) (storeAll [] ps) → Q (.ref d) { s with heap := h', toks := tk' }) :
    wpAny (model prog w) A (call (.type "dict") [.ref l]) Q E s := by
  subst hob
  have sub : ∀ p ∈ news, p ∈ (l, ({ cls := .type "list", data := .seq its.toArray ep } : Obj)) :: (extra ++ news) := fun p hp => .tail _ (List.mem_append.mpr (.inr hp))
  refine dict_pairs_K hh F N hbig (.head _) hP hz fun d o h' tk F' N' l1 lo hd => k d o h' tk F' (fun p hp => ?_) (allLt_of fun p hp => ktn_ltOf l1 p (sub p hp)) lo hd
  rcases List.mem_cons.mp hp with rfl | hp
  · exact N' _ (.head _)
  · exact N' _ (.tail _ (sub p hp))
end

/-! Comp -/
section
open PyProof.Rows.LCg PyProof.Rows.LCt
theorem compEnd_mono {h₀ : Heap} {L I C D : Addr} {m : Str → Option Value} {s₁ s₂ : Shared} {oI oC oD : Obj} {S : List (Addr × Obj) → Prop} {rest rest' : Value → List (Addr × Obj) → Prop} {y : Value}
    (h : CompEnd h₀ L m s₁ I oI C oC D oD S rest y s₂) (k : ∀ nw, rest y nw → rest' y nw) : CompEnd h₀ L m s₁ I oI C oC D oD S rest' y s₂ :=
  let ⟨h', tk, nw, e, F, N, o, hS, r⟩ := h; ⟨h', tk, nw, e, F, N, o, hS, k nw r⟩
section
variable {prog : Program} {w : World} {A : Around} {E : Value → Shared → Prop} {s : Shared} {h₀ : Heap} {L : Addr} {m : Str → Option Value} {env : Env}
/-- a comprehension's turns by an invariant -/
theorem compT_inv {ct elt : Expr} {x : Str} {scope : Scope} {cl : List (Str × Addr)} {S : List (Addr × Obj) → Prop} {P : Nat → Value → Prop} {Fin : List Value → List (Addr × Obj) → Prop} {n : Nat}
    (J : Nat → List Value → List (Addr × Obj) → Prop)
    (turn : ∀ i ys news v I oI C oC D m₂ h tk (E' : Value → Shared → Prop), i < n → J i ys news → P i v → NsObj oC m₂ → m₂ x = some v → Fr h₀ L h m → News h₀ L h ((I, oI) :: (C, oC) :: (D, lst ys) :: news) → Off3 I C D news → ((@Ne Nat I C) ∧ (@Ne Nat I D) ∧ (@Ne Nat C D)) →
      wpAny (model prog w) A (isTrue ct (compEnvC scope cl C env) (eval ct (compEnvC scope cl C env))) (fun ok s' => if ok = true then
        wpAny (model prog w) A (eval elt (compEnvC scope cl C env)) (CompEnd h₀ L m { s with heap := h, toks := tk } I oI C oC D (lst ys) S (fun y news' => J (i + 1) (ys ++ [y]) news')) E' s'
        else CompEnd h₀ L m { s with heap := h, toks := tk } I oI C oC D (lst ys) S (fun _ news' => J (i + 1) ys news') Value.none s') E' { s with heap := h, toks := tk })
    (fin : ∀ ys news, J n ys news → Fin ys news) :
    ∀ k i ys news, i + k = n → J i ys news → CompRestT prog w A h₀ L m env ct elt x scope cl s S P Fin k i ys news := by
  intro k
  induction k with
  | zero => intro i ys news e j; exact fin ys news (by rw [← e]; exact j)
  | succ k ih =>
    intro i ys news e j
    refine CompRestT.succ fun v I oI C oC D m₂ h tk E' hP hC hx F N off ne => ?_
    refine wpAny_mono (turn i ys news v I oI C oC D m₂ h tk E' (by omega) j hP hC hx F N off ne) (fun ok s' z => ?_) fun _ _ z => z
    cases ok with
    | true =>
      simp only [if_true] at z ⊢
      exact wpAny_mono z (fun y s'' z => compEnd_mono z fun nw r => ih (i + 1) _ nw (by omega) r) fun _ _ z => z
    | false =>
      simp only [Bool.false_eq_true, if_false] at z ⊢
      exact compEnd_mono z fun nw r => ih (i + 1) _ nw (by omega) r
variable {K : Type} [DecidableEq K] {knd : KeyKind prog w K}
/-- a dict's keys as the source -/
def SrcDT (knd : KeyKind prog w K) (A : Around) (h₀ : Heap) (L : Addr) (m : Str → Option Value) (env : Env) (ct elt : Expr) (x : Str) (scope : Scope) (cl : List (Str × Addr)) (Fin : Shared → List Value → List (Addr × Obj) → Prop) (xv : Value) (s₁ : Shared) : Prop :=
  ∃ d o kvs ep news, xv = .ref d ∧ (d == sysModules) = false ∧ A.handled = none ∧ Fr h₀ L s₁.heap m ∧ News h₀ L s₁.heap news ∧ (d, o) ∈ news ∧ KdkAt knd o kvs ep ∧ kvs.length ≤ sizeLine ∧
    ∀ s₂ : Shared, (∃ h, s₂ = { s₁ with heap := h }) → CompRestT prog w A h₀ L m env ct elt x scope cl s₂ (fun nw => (d, o) ∈ nw) (fun i v => ∃ k x, kvs[i]? = some (k, x) ∧ knd.is k v = true) (Fin s₂) kvs.length 0 [] news
theorem SrcDT.ledger {ct elt : Expr} {x : Str} {scope : Scope} {cl : List (Str × Addr)} {Fin : Shared → List Value → List (Addr × Obj) → Prop} {d : Addr} {o : Obj} {kvs : List (K × Value)} {news : List (Addr × Obj)} {s₁ : Shared}
    (hh : A.handled = none) (F : Fr h₀ L s₁.heap m) (N : News h₀ L s₁.heap news) (hm : (d, o) ∈ news) (hd : o.IsDictOf knd kvs) (lo : (d == sysModules) = false) (hsz : kvs.length ≤ sizeLine)
    (h : ∀ g, CompRestT prog w A h₀ L m env ct elt x scope cl { s₁ with heap := g } (fun nw => (d, o) ∈ nw) (fun i v => ∃ k x, kvs[i]? = some (k, x) ∧ knd.is k v = true) (Fin { s₁ with heap := g }) kvs.length 0 [] news) :
    SrcDT knd A h₀ L m env ct elt x scope cl Fin (.ref d) s₁ :=
  let ⟨ep, a⟩ := KdkAt.of hd; ⟨d, o, kvs, ep, news, rfl, lo, hh, F, N, hm, a, hsz, fun _ ⟨g, e⟩ => e ▸ h g⟩
theorem dict_st {d I : Addr} {o : Obj} {kvs : List (K × Value)} {ep : Nat} (a : KdkAt knd o kvs ep) : ∀ i (h h' : Heap) (oI : Obj) (nw : List (Addr × Obj)), (h.IsKeyIter I d i kvs.length ep ∧ h.DictAt knd d kvs ep) → h.get? I = some oI → h'.get? I = some oI → (∀ b o, h₀.get? b = some o → h'.get? b = some o) → News h₀ L h' nw → (d, o) ∈ nw → (h'.IsKeyIter I d i kvs.length ep ∧ h'.DictAt knd d kvs ep) :=
  fun i h h' oI nw st e e' _ N hm => ⟨by obtain ⟨o', q, r⟩ := st.1; rw [e] at q; cases q; exact ⟨oI, e', r⟩, a.dictAt (N _ hm).1⟩
theorem ListComp_TD {ct elt iter : Expr} {x : Str} {px : Pos} {scope : Scope} {cl : List (Str × Addr)} {pos : Pos} {Q : Value → Shared → Prop} (_F₀ : Fr h₀ L s.heap m)
    (hclos : closureFor scope env = pure cl) (hcell : ∀ y ∈ scope.names, y.2 ≠ .cell) (hkind : scope.kind = .function)
    (hnames : ∀ y ∈ scope.names, y.2 = .local → scope.names.lookup y.1 = some .local) (hx : scope.names.lookup x = some .local)
    (h : wpAny (model prog w) A (eval iter env) (SrcDT knd A h₀ L m env ct elt x scope cl (fun s₂ => FinE h₀ L m s₂ Q)) E s)
    (hs : ∀ x, foldedSetIterable iter env x = pure x := by intro _; rfl) :
    wpAny (model prog w) A (eval (.ListComp elt [⟨.Name x px, iter, [ct], 0⟩] scope pos) env) Q E s := by
  rw [eval_ListComp]
  refine wpAny_comprehension_free (use := none) rfl hs hclos hkind hnames (wpAny_mono h (fun xv s₁ h₁ => ?_) fun _ _ e => e)
  obtain ⟨d, o, kvs, ep, news, rfl, lo, hh, F, N, hm, a, hsz, R⟩ := h₁
  have hD := a.dictAt (N _ hm).1
  have hlt : d < s₁.heap.objs.size := hD.lt_size
  refine wpAny_pyIter_dict lo hD ?_
  have up : ∀ b o, s₁.heap.get? b = some o → (s₁.heap.push { cls := .type "dict_keyiterator", data := .fields #[.ref d, .int 0 0, .int kvs.length 0, .int ep 0] }).get? b = some o := fun b o e => Heap.get?_push_of_some _ e
  refine block_T (S := fun nw => (d, o) ∈ nw) (Walks.dictKeys (knd := knd) hh s₁.heap.objs.size d (Nat.ne_of_lt hlt) kvs ep) hsz (fun i h st => by obtain ⟨o, e, _⟩ := st.1; exact ⟨o, e⟩) (dict_st a) hcell hkind hx ⟨⟨_, Heap.get?_push_size _ rfl, rfl, rfl⟩, hD.push _⟩ (fun b hb => ?_)
    (F.keeps up) (N.grown up) (Nat.ne_of_lt F.ns.lt) (next_is_new F) (fun p hp => Nat.ne_of_lt (Heap.lt_size (N p hp).1)) hm (R _ ⟨_, rfl⟩) ?_
  · show b < (s₁.heap.push _).objs.size
    rw [Heap.size_push]
    rcases List.mem_cons.mp hb with rfl | hb
    · exact Nat.lt_succ_self _
    · rw [List.mem_singleton.mp hb]; exact Nat.lt_succ_of_lt hlt
  · intro D C h tk m' ys news' F' N' o1 hn hC₀ hD₀ hCL hDL hCD offC fin
    refine ⟨m', hn, fun h'' hs'' => fin D h'' tk (F'.change hs'' hCL hC₀) (fun p hp => ?_) o1⟩
    refine ⟨hs''.extBut _ _ ?_ (N' p hp).1, (N' p hp).2⟩
    rcases List.mem_cons.mp hp with rfl | hp
    · exact Ne.symm hCD
    · exact offC p hp
theorem Assign_ListComp_TD {ct elt iter : Expr} {x y : Str} {px py : Pos} {scope : Scope} {cl : List (Str × Addr)} {pos spos : Pos} {Q : Flow → Shared → Prop} (_F₀ : Fr h₀ L s.heap m) (hLe : env.locals = L)
    (hsw : swapsWith (.ListComp elt [⟨.Name x px, iter, [ct], 0⟩] scope pos) (some (.Name y py)) spos.line env = pure true)
    (hclos : closureFor scope env = pure cl) (hcell : ∀ z ∈ scope.names, z.2 ≠ .cell) (hkind : scope.kind = .function)
    (hnames : ∀ z ∈ scope.names, z.2 = .local → scope.names.lookup z.1 = some .local) (hx : scope.names.lookup x = some .local)
    (hy : env.kindOf y = some .local) (hp : (env.scope.kind == .class || (env.scope.kind == .module && env.locals != env.globals)) = false)
    (h : wpAny (model prog w) A (eval iter env) (SrcDT knd A h₀ L m env ct elt x scope cl (fun s₂ => FinA h₀ L m s₂ y Q)) E s)
    (hs : ∀ x, foldedSetIterable iter env x = pure x := by intro _; rfl) :
    wpAny (model prog w) A (exec (.Assign [.Name y py] (.ListComp elt [⟨.Name x px, iter, [ct], 0⟩] scope pos) spos) env) Q E s := by
  subst hLe
  rw [exec_Assign_Name_used _ _ _ _ hsw]
  refine wpAny_bind (wpAny_standAt (wpAny_bind ?_))
  show wpAny _ A (do let _ ← comprehension (.ListComp elt [⟨.Name x px, iter, [ct], 0⟩] scope pos) scope env _ (newList []) false (eval iter env) (some (assign (.Name y py) env))) _ _ s
  refine wpAny_bind (wpAny_mono (wpAny_comprehension_free (use := some (assign (.Name y py) env)) (Q := fun _ s' => Q .next s') rfl hs hclos hkind hnames
    (wpAny_mono h (fun xv s₁ h₁ => ?_) fun _ _ e => e)) (fun _ s' hq => wpAny_pure (wpAny_pure hq)) fun _ _ e => e)
  obtain ⟨d, o, kvs, ep, news, rfl, lo, hh, F, N, hm, a, hsz, R⟩ := h₁
  have hD := a.dictAt (N _ hm).1
  have hlt : d < s₁.heap.objs.size := hD.lt_size
  refine wpAny_pyIter_dict lo hD ?_
  have up : ∀ b o, s₁.heap.get? b = some o → (s₁.heap.push { cls := .type "dict_keyiterator", data := .fields #[.ref d, .int 0 0, .int kvs.length 0, .int ep 0] }).get? b = some o := fun b o e => Heap.get?_push_of_some _ e
  refine block_T (S := fun nw => (d, o) ∈ nw) (Walks.dictKeys (knd := knd) hh s₁.heap.objs.size d (Nat.ne_of_lt hlt) kvs ep) hsz (fun i h st => by obtain ⟨o, e, _⟩ := st.1; exact ⟨o, e⟩) (dict_st a) hcell hkind hx ⟨⟨_, Heap.get?_push_size _ rfl, rfl, rfl⟩, hD.push _⟩ (fun b hb => ?_)
    (F.keeps up) (N.grown up) (Nat.ne_of_lt F.ns.lt) (next_is_new F) (fun p hp => Nat.ne_of_lt (Heap.lt_size (N p hp).1)) hm (R _ ⟨_, rfl⟩) ?_
  · show b < (s₁.heap.push _).objs.size
    rw [Heap.size_push]
    rcases List.mem_cons.mp hb with rfl | hb
    · exact Nat.lt_succ_self _
    · rw [List.mem_singleton.mp hb]; exact Nat.lt_succ_of_lt hlt
  · intro D C h' tk m' ys news' F' N' o1 hn hC₀ hD₀ hCL hDL hCD offC fin
    show wpAny _ A (assign (.Name y py) env (.ref D)) _ _ _
    refine wpAny_assign_Name (wpAny_storeName_local hy F'.ns (fun h₂ hn₂ hs₂ => ?_) hp)
    have hL₀ : h₀.get? env.locals = none := Heap.get?_none_of_le F'.above
    have F₂ : Fr h₀ env.locals h₂ (fun z => if z = y then some (.ref D) else m z) := ⟨hn₂, fun b o e => hs₂.extBut b o (fun q => by rw [q, hL₀] at e; cases e) (F'.keep b o e), F'.above⟩
    refine ⟨m', hn.sameBut hs₂ hCL, fun h'' hs'' => fin D h'' _ (F₂.change hs'' hCL hC₀) (fun p hp => ?_) o1⟩
    have z : h₂.get? p.1 = some p.2 := hs₂.extBut _ _ (N' p hp).2.1 (N' p hp).1
    refine ⟨hs''.extBut _ _ ?_ z, (N' p hp).2⟩
    rcases List.mem_cons.mp hp with rfl | hp
    · exact Ne.symm hCD
    · exact offC p hp
end
end

/-! CNames -/
theorem rows_4 : True := by
  k_with_none
  k_with "my enter" => ((refine wpAny_call ?_; k_dflt (refine' code_defG ?k1 ?k2 ?k3 ?k4 ?k5 ?kA ?kF ?kK ?k6 ?k7 ?k8 ?k9 ?kB ?_ ?c2 ?c3 ?c4 ?c5; (case kA => exact rfl); (case kF => exact rfl); (case kK => assumption); (case k1 => k_asm); (case k2 => k_asm); (case k3 => k_asm); (case k4 => k_asm); (case k5 => k_asm); (case k6 => k_is); (case k7 => k_is); (case k8 => ktr_room); (case k9 => exact BindsTo.of_eq rfl); (case c5 => decide); (case kB => exact locs rfl); (case c2 => exact rfl); (case c3 => exact rfl); (case c4 => exact rfl); k_whole; intro g' L' h' FG' F' N' B' X' T' kG'; (try dsimp only); (try k_lift B'); (try k_fold))))
  k_with "my enterC" => ((refine wpAny_call ?_; k_dflt (refine' code_defC ?k1 ?k2 ?k3 ?k4 ?k5 ?kA ?kF ?kK ?k6 ?k7 ?k8 ?k9 ?kB ?kD ?_ ?c2 ?c3 ?c4; (case kA => exact rfl); (case kF => exact rfl); (case kK => assumption); (case k1 => k_asm); (case k2 => k_asm); (case k3 => k_asm); (case k4 => k_asm); (case k5 => k_asm); (case k6 => k_is); (case k7 => k_is); (case k8 => ktr_room); (case k9 => exact BindsTo.of_eq rfl); (case kB => exact rfl); (case kD => decide +kernel); (case c2 => exact rfl); (case c3 => exact rfl); (case c4 => exact rfl); k_whole; intro g' L' h' tk' cells' FG' F' N' Y' B' X' T' l1; (try k_lt l1); (obtain ⟨oc, hE', d1⟩ := CellsAre.one Y'; subst hE'; clear Y'); (try simp only [List.cons_append, List.nil_append] at N'); (try dsimp only); (try k_lift B'); (try k_fold))))
  k_with "ite" => (first | with_reducible refine ite_tt ?_ | with_reducible refine ite_ff ?_)
  k_with "call ref" => ((k_here; k_dflt (refine' kind_K ?k1 ?k2 ?k3 ?k4 ?k5 ?k6 ?k7 ?k8 ?k9 ?ka ?kb ?kc ?kd ?ke ?_; (case k1 => k_asm); (case k2 => k_asm); (case k3 => k_asm); (case k4 => k_asm); (case k5 => k_asm); (case k6 => first | exact rfl | assumption); (case k7 => k_mem); (case k8 => k_asm); (case k9 => k_asm); (case ka => ktr_room); (case kb => ktr_units); (case kc => first | assumption | omega); (case kd => first | assumption | omega); (case ke => first | assumption | exact allStr_nil); k_whole; intro t' h' tk' F' N' cE')))
  k_with "call ref" => ((k_here; k_dflt (refine' isarr_K ?k1 ?k2 ?k3 ?k4 ?k5 ?k6 ?ka ?kb ?kc ?kd ?_; (case k1 => k_asm); (case k2 => k_asm); (case k3 => k_asm); (case k4 => k_asm); (case k5 => k_asm); (case k6 => first | exact rfl | assumption); (case ka => ktr_room); (case kb => ktr_units); (case kc => first | assumption | omega); (case kd => first | assumption | omega); k_whole; intro h' tk' F' N')))
  k_with "call ref" => ((k_here; k_dflt (refine' means_K ?k1 ?k2 ?k3 ?k4 ?k5 ?k6 ?k7 ?k71 ?k72 ?k73 ?k8 ?k9 ?ka ?kb ?kc ?kd ?ke ?_; (case k1 => k_asm); (case k2 => k_asm); (case k3 => k_asm); (case k4 => k_asm); (case k5 => k_asm); (case k6 => first | exact rfl | assumption); (case k71 => k_mem); (case k72 => k_mem); (case k73 => first | assumption | k_get); (case k7 => k_mem); (case k8 => k_asm); (case k9 => k_asm); (case ka => ktr_room); (case kb => ktr_units); (case kc => first | assumption | omega); (case kd => first | assumption | omega); (case ke => first | assumption | exact allStr_nil); k_whole; intro h' tk' F' N')))
  k_with "getAttr ref" => ((k_here; k_dflt (refine' get_own ?F ?X ?I ?g ?h ?a ?n ?l ?v ?_; (case F => k_asm); (case X => k_asm); (case I => k_inst); (case g => k_is); (case h => k_is); (case a => k_is); (case n => k_is); (case l => assumption); (case v => k_handed); k_whole)))
  k_with "exec Assign cons ListComp" => ((k_here; k_dflt (refine LCt.Assign_ListComp_T (F₀ := by k_asm) (by rfl) (by with_unfolding_all rfl) (by with_unfolding_all rfl) (by decide) (by rfl) (by decide) (by rfl) (by rfl) (by rfl) ?_)))
  k_with "eval ListComp" => ((k_here; k_dflt (refine LCt.ListComp_T (F₀ := by k_asm) (by with_unfolding_all rfl) (by decide) (by rfl) (by decide) (by rfl) ?_)))
  k_with "compareOp In str ref" => ((k_here; k_dflt (refine kda_in (knd := PySem.strKind _ _) (by k_asm) (by k_mem) (by k_asm) (by k_asm) (strKind_is _ _ _ _) ((valueAt _ _).isSome) (by rfl) ?_)))
  k_with "subscriptTail" => ((k_here; (with_reducible show wpAny _ _ (subscriptTail _ _ (Value.ref _) (Value.str _ _)) _ _ _); (obtain ⟨v9, hv9⟩ := Option.isSome_iff_exists.mp (by assumption : (valueAt _ _).isSome = true)); k_dflt (refine kda_item (knd := PySem.strKind _ _) (by k_asm) (by k_mem) (by k_asm) (strKind_is _ _ _ _) hv9 ?_)))
  k_with "call type:dict" => ((k_here; (with_reducible show wpAny _ _ (call (Value.type "dict") [Value.ref _]) _ _ _); k_dflt (refine' dict_pairs_K ?kh ?k1 ?k2 ?k3 ?k4 ?k5 ?k6 ?_; (case kh => exact rfl); (case k1 => k_asm); (case k2 => k_asm); (case k3 => exact modules_low (Top.nolimit (by k_asm))); (case k4 => k_mem); (case k5 => assumption); (case k6 => omega); k_whole; intro d' o' h' tk' F' N' l1 lo' hd')))
  trivial
section
variable {w : World} {mean : ExcName → Option Value} {mg mb : Str → Option Value} {dp un : Nat} {gd : Option (List Code)} {cn : Str} {cs : Scope} {a : Addr} {ccd : Value} {cl : List (Str × Addr)} {outer : List Env} {A₀ : Around} {base h₀ : Heap} {L : Addr} {m : Str → Option Value} {s : Shared} {Q E : Value → Shared → Prop} {news news' : List (Addr × Obj)}
theorem strsAre_at {vs : List Value} {ws : List Str} (h : StrsAre vs ws) : ∀ {i : Nat} {v : Value}, vs[i]? = some v → ∃ x t, v = .str x t ∧ ws[i]? = some x := by
  induction h with
  | nil => intro i v e; simp at e
  | cons y t _ ih =>
    intro i v e
    cases i with
    | zero => simp at e; subst e; exact ⟨y, t, rfl, rfl⟩
    | succ i => exact ih (by simpa using e)
theorem strsAre_len {vs : List Value} {ws : List Str} (h : StrsAre vs ws) : vs.length = ws.length := by
  induction h with
  | nil => rfl
  | cons y t _ ih => simp [ih]
theorem filter_take {α : Type} {p : α → Bool} {l : List α} {i : Nat} {x : α} (h : l[i]? = some x) : (l.take (i + 1)).filter p = if p x = true then (l.take i).filter p ++ [x] else (l.take i).filter p := by
  rw [List.take_add_one, h, List.filter_append]
  cases hp : p x <;> simp [hp]
theorem strsAre_snoc {vs : List Value} {ws : List Str} {x : Str} {t : Tok} (h : StrsAre vs ws) : StrsAre (vs ++ [.str x t]) (ws ++ [x]) := by
  induction h with
  | nil => exact .cons _ _ .nil
  | cons y t _ ih => exact .cons _ _ ih
/-- the words that common_names looks up -/
def plainW (kvsK : List (Str × Value)) (ws : List Str) : List Str := ws.filter fun x => !isArr x && (kindS [] x == kindS kvsK x)
/-- the pairs of these words that a dict has -/
def selP (kvs : List (Str × Value)) (l : List Str) : List (Str × Value) := l.filterMap fun x => (valueAt kvs x).map fun v => (x, v)
theorem selP_take {kvs : List (Str × Value)} {l : List Str} {i : Nat} {x : Str} (h : l[i]? = some x) : selP kvs (l.take (i + 1)) = selP kvs (l.take i) ++ ((valueAt kvs x).map fun v => (x, v)).toList := by
  unfold selP
  rw [List.take_add_one, h, List.filterMap_append]
  cases hv : valueAt kvs x <;> simp [hv]
theorem selP_len (kvs : List (Str × Value)) (l : List Str) : (selP kvs l).length ≤ l.length := List.length_filterMap_le _ _
theorem news_swap3 {h₀ h : Heap} {L : Addr} {p a b c : Addr × Obj} {nw : List (Addr × Obj)} (N : News h₀ L h (p :: a :: b :: c :: nw)) : News h₀ L h (a :: b :: c :: p :: nw) := fun q hq => N q (by
  simp only [List.mem_cons] at hq ⊢
  rcases hq with h | h | h | h | h
  · exact .inr (.inl h)
  · exact .inr (.inr (.inl h))
  · exact .inr (.inr (.inr (.inl h)))
  · exact .inl h
  · exact .inr (.inr (.inr (.inr h))))
theorem off3_cons {I C D q : Addr} {o : Obj} {nw : List (Addr × Obj)} (l : @LT.lt Nat _ I q ∧ @LT.lt Nat _ C q ∧ @LT.lt Nat _ D q ∧ AllLt q nw) (h : LCg.Off3 I C D nw) : LCg.Off3 I C D ((q, o) :: nw) :=
  ⟨⟨Nat.ne_of_gt l.1, Nat.ne_of_gt l.2.1, Nat.ne_of_gt l.2.2.1⟩, h⟩
theorem cnames_K {xA dx kA nA wA : Addr} {oK oN : Obj} {kvsK kvsN : List (Str × Value)} {es : List DictEntry} {n ew : Nat} {sl : Array (Option Value)} {wv : List Value} {ws : List Str}
    (B : Below A₀ base outer h₀) (F : Fr h₀ L s.heap m) (X : (hd.heap_39 w.params).In h₀) (N : News h₀ L s.heap news)
    (T : Top hd.view_39 (looseW hd.view_39 [Str.ofString "BasicError"]) mean mg mb h₀) (hk : cs.kind = .function)
    (hm1 : (xA, (⟨.ref 114, some dx, .plain, sl⟩ : Obj)) ∈ news) (hm2 : (dx, dictOf es n) ∈ news) (hg : getL (Str.ofString "kinds") es = some (some (.ref kA))) (hg2 : getL (Str.ofString "names") es = some (some (.ref nA)))
    (hmK : (kA, oK) ∈ news) (hkd : oK.IsDictOf (PySem.strKind PySem.Challenge.rw_pf0005_01.row.prog w) kvsK) (loK : (kA == sysModules) = false) (hv : AllStr kvsK)
    (hmN : (nA, oN) ∈ news) (hnd : oN.IsDictOf (PySem.strKind PySem.Challenge.rw_pf0005_01.row.prog w) kvsN) (loN : (nA == sysModules) = false)
    (hmW : (wA, ({ cls := .type "list", data := .seq wv.toArray ew } : Obj)) ∈ news) (hW : StrsAre wv ws) (hwl : ∀ x ∈ ws, 0 < x.length ∧ x.length ≤ 100) (hwn : ws.length ≤ 100)
    (hd : dp + 3 < recursionLimit) (_hu : un + 32 < cLine)
    (ret : ∀ d o h' tk', Fr h₀ L h' m → News h₀ L h' ((d, o) :: news) → AllLt d news → (d == sysModules) = false → o.IsDictOf (PySem.strKind PySem.Challenge.rw_pf0005_01.row.prog w) (storeAll [] (selP kvsN (plainW kvsK ws))) → Q (.ref d) { s with heap := h', toks := tk' }) :
    wpAny (model PySem.Challenge.rw_pf0005_01.row.prog w) (ktrTop dp un gd cn cs L a ccd cl outer) (call (.ref 84) [.ref xA, .ref wA]) Q E s := by
  walk_at "my enterC"
  k_steps
  refine LCt.CompSrcT.ledger (by rfl) (by k_asm) (by k_asm) (by k_mem) (by rw [List.size_toArray, strsAre_len hW, sizeLine_eq]; omega) ?_
  intro g0
  refine compT_inv (J := fun i ys nw => (∀ q ∈ (L' + 1, oc) :: news, q ∈ nw) ∧ StrsAre ys ((ws.take i).filter fun x => !isArr x && (kindS [] x == kindS kvsK x))) ?_ ?_ _ _ _ _ (Nat.zero_add _) ⟨fun q h => h, by simpa using StrsAre.nil⟩
  · intro i ys nw v I oI C oC D m₂ h tk E' hi hJ hP hC hx F' N' off ne
    obtain ⟨hsub, hys⟩ := hJ
    obtain ⟨x, t, rfl, hxi⟩ := strsAre_at hW (by simpa using hP)
    have hxm := List.mem_of_getElem? hxi
    have hx1 := (hwl x hxm).1
    have hx2 := (hwl x hxm).2
    have q1 := hsub _ (List.Mem.head _)
    have q2 := hsub _ (List.Mem.tail _ hm1)
    have q3 := hsub _ (List.Mem.tail _ hm2)
    have q4 := hsub _ (List.Mem.tail _ hmK)
    have q5 := hsub _ (List.Mem.tail _ hmW)
    k_steps
    · refine ⟨_, _, nw, rfl, F', N', off, .inr ⟨_, q5, rfl, _, rfl⟩, hsub, ?_⟩
      rw [filter_take hxi, if_neg (by simp [*])]
      exact hys
    · refine ⟨_, _, nw, rfl, F', N', off, .inr ⟨_, q5, rfl, _, rfl⟩, hsub, ?_⟩
      rw [filter_take hxi, if_pos (by simp [*])]
      exact strsAre_snoc hys
    · refine ⟨_, _, nw, rfl, F', N', off, .inr ⟨_, q5, rfl, _, rfl⟩, hsub, ?_⟩
      rw [filter_take hxi, if_neg (by simp [*])]
      exact hys
  · intro ys nw hJ D h tk F1 N1 off1
    obtain ⟨hsub, hys⟩ := hJ
    rw [show wv.toArray.size = ws.length by rw [List.size_toArray]; exact strsAre_len hW, List.take_length] at hys
    have N2 : News g' L' h ((D, LCg.lst ys) :: (L' + 1, oc) :: news) := fun q hq => N1 q (by
      rcases List.mem_cons.mp hq with rfl | hq
      · exact .head _
      · exact .tail _ (hsub q hq))
    clear N1 F' N' off1 hsub
    generalize hpl : (ws.filter fun x => !isArr x && (kindS [] x == kindS kvsK x)) = plain at hys
    dsimp only
    k_steps
    refine LCt.CompSrcT.ledger (by rfl) (by k_asm) (by k_asm) (List.Mem.head _) (by rw [List.size_toArray, strsAre_len hys, sizeLine_eq, ← hpl]; exact Nat.le_trans (List.length_filter_le _ _) (by omega)) ?_
    intro g1
    refine compT_inv (J := fun i ys2 nw => (∀ q ∈ (D, LCg.lst ys) :: (L' + 1, oc) :: news, q ∈ nw) ∧ PairsIn nw ys2 (selP kvsN (plain.take i))) ?_ ?_ _ _ _ _ (Nat.zero_add _) ⟨fun q h => h, pairsIn_nil⟩
    · intro i ys2 nw v I oI C oC D2 m₂ h tk E' hi hJ hP hC hx F' N' off ne
      obtain ⟨hsub, hps⟩ := hJ
      obtain ⟨x, t, rfl, hxi⟩ := strsAre_at hys (by simpa using hP)
      have q1 := hsub _ (List.Mem.tail _ (List.Mem.head _))
      have q2 := hsub _ (List.Mem.tail _ (List.Mem.tail _ hm1))
      have q3 := hsub _ (List.Mem.tail _ (List.Mem.tail _ hm2))
      have q4 := hsub _ (List.Mem.tail _ (List.Mem.tail _ hmN))
      have q5 := hsub _ (List.Mem.head _)
      k_steps
      · refine ⟨_, _, _ :: nw, rfl, by assumption, news_swap3 (by assumption), off3_cons (by assumption) off, .inr ⟨_, .tail _ q5, rfl, _, rfl⟩, fun q hq => .tail _ (hsub q hq), ?_⟩
        rw [selP_take hxi, hv9]
        exact pairsIn_snoc hps
      · refine ⟨_, _, nw, rfl, F', N', off, .inr ⟨_, q5, rfl, _, rfl⟩, hsub, ?_⟩
        rw [selP_take hxi, show valueAt kvsN x = none by simp_all]
        simpa using hps
    · intro ys2 nw hJ D2 h tk F3 N3 off3
      obtain ⟨hsub, hps⟩ := hJ
      rw [show ys.toArray.size = plain.length by rw [List.size_toArray]; exact strsAre_len hys, List.take_length] at hps
      have hlen : (selP kvsN plain).length ≤ 1000 := Nat.le_trans (selP_len _ _) (Nat.le_trans (by rw [← hpl]; exact List.length_filter_le _ _) (by omega))
      have hps' := pairsIn_sub hps (fun q hq => List.Mem.tail (D2, LCg.lst ys2) hq)
      have hm9 : (D2, LCg.lst ys2) ∈ (D2, LCg.lst ys2) :: nw := .head _
      dsimp only
      k_steps
      subst hpl
      exact ret _ _ _ _ (by assumption) (fun p hp => (by assumption : News h₀ L _ ((d', o') :: (D2, LCg.lst ys2) :: nw)) p (by
        rcases List.mem_cons.mp hp with rfl | hp
        · exact .head _
        · exact .tail _ (.tail _ (hsub _ (.tail _ (.tail _ hp)))))) (allLt_of fun p hp => ktn_ltOf l1 p (.tail _ (hsub _ (.tail _ (.tail _ hp))))) lo' hd'
end

/-! CArrays -/
theorem rows_5 : True := by
  k_with_none
  k_with "my enter" => ((refine wpAny_call ?_; k_dflt (refine' code_defG ?k1 ?k2 ?k3 ?k4 ?k5 ?kA ?kF ?kK ?k6 ?k7 ?k8 ?k9 ?kB ?_ ?c2 ?c3 ?c4 ?c5; (case kA => exact rfl); (case kF => exact rfl); (case kK => assumption); (case k1 => k_asm); (case k2 => k_asm); (case k3 => k_asm); (case k4 => k_asm); (case k5 => k_asm); (case k6 => k_is); (case k7 => k_is); (case k8 => ktr_room); (case k9 => exact BindsTo.of_eq rfl); (case c5 => decide); (case kB => exact locs rfl); (case c2 => exact rfl); (case c3 => exact rfl); (case c4 => exact rfl); k_whole; intro g' L' h' FG' F' N' B' X' T' kG'; (try dsimp only); (try k_lift B'); (try k_fold))))
  k_with "my enterC" => ((refine wpAny_call ?_; k_dflt (refine' code_defC ?k1 ?k2 ?k3 ?k4 ?k5 ?kA ?kF ?kK ?k6 ?k7 ?k8 ?k9 ?kB ?kD ?_ ?c2 ?c3 ?c4; (case kA => exact rfl); (case kF => exact rfl); (case kK => assumption); (case k1 => k_asm); (case k2 => k_asm); (case k3 => k_asm); (case k4 => k_asm); (case k5 => k_asm); (case k6 => k_is); (case k7 => k_is); (case k8 => ktr_room); (case k9 => exact BindsTo.of_eq rfl); (case kB => exact rfl); (case kD => decide +kernel); (case c2 => exact rfl); (case c3 => exact rfl); (case c4 => exact rfl); k_whole; intro g' L' h' tk' cells' FG' F' N' Y' B' X' T' l1; (try k_lt l1); (obtain ⟨oc, hE', d1⟩ := CellsAre.one Y'; subst hE'; clear Y'); (try simp only [List.cons_append, List.nil_append] at N'); (try dsimp only); (try k_lift B'); (try k_fold))))
  k_with "ite" => (first | with_reducible refine ite_tt ?_ | with_reducible refine ite_ff ?_)
  k_with "call ref" => ((k_here; k_dflt (refine' kind_K ?k1 ?k2 ?k3 ?k4 ?k5 ?k6 ?k7 ?k8 ?k9 ?ka ?kb ?kc ?kd ?ke ?_; (case k1 => k_asm); (case k2 => k_asm); (case k3 => k_asm); (case k4 => k_asm); (case k5 => k_asm); (case k6 => first | exact rfl | assumption); (case k7 => k_mem); (case k8 => k_asm); (case k9 => k_asm); (case ka => ktr_room); (case kb => ktr_units); (case kc => first | assumption | omega); (case kd => first | assumption | omega); (case ke => first | assumption | exact allStr_nil); k_whole; intro t' h' tk' F' N' cE')))
  k_with "call ref" => ((k_here; k_dflt (refine' isarr_K ?k1 ?k2 ?k3 ?k4 ?k5 ?k6 ?ka ?kb ?kc ?kd ?_; (case k1 => k_asm); (case k2 => k_asm); (case k3 => k_asm); (case k4 => k_asm); (case k5 => k_asm); (case k6 => first | exact rfl | assumption); (case ka => ktr_room); (case kb => ktr_units); (case kc => first | assumption | omega); (case kd => first | assumption | omega); k_whole; intro h' tk' F' N')))
  k_with "call ref" => ((k_here; k_dflt (refine' means_K ?k1 ?k2 ?k3 ?k4 ?k5 ?k6 ?k7 ?k71 ?k72 ?k73 ?k8 ?k9 ?ka ?kb ?kc ?kd ?ke ?_; (case k1 => k_asm); (case k2 => k_asm); (case k3 => k_asm); (case k4 => k_asm); (case k5 => k_asm); (case k6 => first | exact rfl | assumption); (case k71 => k_mem); (case k72 => k_mem); (case k73 => first | assumption | k_get); (case k7 => k_mem); (case k8 => k_asm); (case k9 => k_asm); (case ka => ktr_room); (case kb => ktr_units); (case kc => first | assumption | omega | exact (hkl _ (by assumption)).1); (case kd => first | assumption | omega | exact (hkl _ (by assumption)).2); (case ke => first | assumption | exact allStr_nil); k_whole; intro h' tk' F' N')))
  k_with "getAttr ref" => ((k_here; k_dflt (refine' get_own ?F ?X ?I ?g ?h ?a ?n ?l ?v ?_; (case F => k_asm); (case X => k_asm); (case I => k_inst); (case g => k_is); (case h => k_is); (case a => k_is); (case n => k_is); (case l => assumption); (case v => k_handed); k_whole)))
  k_with "exec Assign cons ListComp" => ((k_here; k_dflt (refine LCt.Assign_ListComp_T (F₀ := by k_asm) (by rfl) (by with_unfolding_all rfl) (by with_unfolding_all rfl) (by decide) (by rfl) (by decide) (by rfl) (by rfl) (by rfl) ?_)))
  k_with "eval ListComp" => ((k_here; k_dflt (refine LCt.ListComp_T (F₀ := by k_asm) (by with_unfolding_all rfl) (by decide) (by rfl) (by decide) (by rfl) ?_)))
  k_with "compareOp In str ref" => ((k_here; k_dflt (refine kda_in (knd := PySem.strKind _ _) (by k_asm) (by k_mem) (by k_asm) (by k_asm) (strKind_is _ _ _ _) ((valueAt _ _).isSome) (by rfl) ?_)))
  k_with "subscriptTail" => ((k_here; (with_reducible show wpAny _ _ (subscriptTail _ _ (Value.ref _) (Value.str _ _)) _ _ _); (obtain ⟨v9, hv9⟩ := Option.isSome_iff_exists.mp (by assumption : (valueAt _ _).isSome = true)); k_dflt (refine kda_item (knd := PySem.strKind _ _) (by k_asm) (by k_mem) (by k_asm) (strKind_is _ _ _ _) hv9 ?_)))
  k_with "call type:dict" => ((k_here; (with_reducible show wpAny _ _ (call (Value.type "dict") [Value.ref _]) _ _ _); k_dflt (refine' dict_pairs_K ?kh ?k1 ?k2 ?k3 ?k4 ?k5 ?k6 ?_; (case kh => exact rfl); (case k1 => k_asm); (case k2 => k_asm); (case k3 => exact modules_low (Top.nolimit (by k_asm))); (case k4 => k_mem); (case k5 => assumption); (case k6 => omega); k_whole; intro d' o' h' tk' F' N' l1 lo' hd')))
  trivial
section
variable {w : World} {mean : ExcName → Option Value} {mg mb : Str → Option Value} {dp un : Nat} {gd : Option (List Code)} {cn : Str} {cs : Scope} {a : Addr} {ccd : Value} {cl : List (Str × Addr)} {outer : List Env} {A₀ : Around} {base h₀ : Heap} {L : Addr} {m : Str → Option Value} {s : Shared} {Q E : Value → Shared → Prop} {news news' : List (Addr × Obj)}
/-- the words that common_arrays looks up -/
def stripW (x : Str) : Str := Txt.slice x none (some (-2))
def someW (ws : List Str) : List Str := (ws.filter isArr).map stripW
theorem someW_len (ws : List Str) : (someW ws).length ≤ ws.length := by unfold someW; rw [List.length_map]; exact List.length_filter_le _ _
theorem someW_take {l : List Str} {i : Nat} {x : Str} (h : l[i]? = some x) : someW (l.take (i + 1)) = if isArr x = true then someW (l.take i) ++ [stripW x] else someW (l.take i) := by
  unfold someW
  rw [filter_take h]
  split <;> simp
theorem fm_one {α β : Type} (f : α → Option β) (x : α) : List.filterMap f (some x).toList = (f x).toList := by cases h : f x <;> simp [h]
def selA (kvsK kvs : List (Str × Value)) (l : List Str) : List (Str × Value) := l.filterMap fun x => if (kindS [] x == kindS kvsK x) = true then (valueAt kvs x).map fun v => (x, v) else none
theorem selA_take {kvsK kvs : List (Str × Value)} {l : List Str} {i : Nat} {x : Str} (h : l[i]? = some x) : selA kvsK kvs (l.take (i + 1)) = selA kvsK kvs (l.take i) ++ (if (kindS [] x == kindS kvsK x) = true then (valueAt kvs x).map fun v => (x, v) else none).toList := by
  unfold selA
  rw [List.take_add_one, h, List.filterMap_append, fm_one]
theorem selA_len (kvsK kvs : List (Str × Value)) (l : List Str) : (selA kvsK kvs l).length ≤ l.length := List.length_filterMap_le _ _
theorem carrays_K {xA dx kA nA wA : Addr} {oK oN : Obj} {kvsK kvsN : List (Str × Value)} {es : List DictEntry} {n ew : Nat} {sl : Array (Option Value)} {wv : List Value} {ws : List Str}
    (B : Below A₀ base outer h₀) (F : Fr h₀ L s.heap m) (X : (hd.heap_39 w.params).In h₀) (N : News h₀ L s.heap news)
    (T : Top hd.view_39 (looseW hd.view_39 [Str.ofString "BasicError"]) mean mg mb h₀) (hk : cs.kind = .function)
    (hm1 : (xA, (⟨.ref 114, some dx, .plain, sl⟩ : Obj)) ∈ news) (hm2 : (dx, dictOf es n) ∈ news) (hg : getL (Str.ofString "kinds") es = some (some (.ref kA))) (hg2 : getL (Str.ofString "arrays") es = some (some (.ref nA)))
    (hmK : (kA, oK) ∈ news) (hkd : oK.IsDictOf (PySem.strKind PySem.Challenge.rw_pf0005_01.row.prog w) kvsK) (loK : (kA == sysModules) = false) (hv : AllStr kvsK)
    (hmN : (nA, oN) ∈ news) (hnd : oN.IsDictOf (PySem.strKind PySem.Challenge.rw_pf0005_01.row.prog w) kvsN) (loN : (nA == sysModules) = false) (hkl : ∀ k, (valueAt kvsN k).isSome = true → 0 < k.length ∧ k.length ≤ 100)
    (hmW : (wA, ({ cls := .type "list", data := .seq wv.toArray ew } : Obj)) ∈ news) (hW : StrsAre wv ws) (hwl : ∀ x ∈ ws, 0 < x.length ∧ x.length ≤ 100) (hwn : ws.length ≤ 100)
    (hd : dp + 3 < recursionLimit) (_hu : un + 32 < cLine)
    (ret : ∀ d o h' tk', Fr h₀ L h' m → News h₀ L h' ((d, o) :: news) → AllLt d news → (d == sysModules) = false → o.IsDictOf (PySem.strKind PySem.Challenge.rw_pf0005_01.row.prog w) (storeAll [] (selA kvsK kvsN (someW ws))) → Q (.ref d) { s with heap := h', toks := tk' }) :
    wpAny (model PySem.Challenge.rw_pf0005_01.row.prog w) (ktrTop dp un gd cn cs L a ccd cl outer) (call (.ref 89) [.ref xA, .ref wA]) Q E s := by
  walk_at "my enterC"
  k_steps
  refine LCt.CompSrcT.ledger (by rfl) (by k_asm) (by k_asm) (by k_mem) (by rw [List.size_toArray, strsAre_len hW, sizeLine_eq]; omega) ?_
  intro g0
  refine compT_inv (J := fun i ys nw => (∀ q ∈ (L' + 1, oc) :: news, q ∈ nw) ∧ StrsAre ys (someW (ws.take i))) ?_ ?_ _ _ _ _ (Nat.zero_add _) ⟨fun q h => h, StrsAre.nil⟩
  · intro i ys nw v I oI C oC D m₂ h tk E' hi hJ hP hC hx F' N' off ne
    obtain ⟨hsub, hys⟩ := hJ
    obtain ⟨x, t, rfl, hxi⟩ := strsAre_at hW (by simpa using hP)
    have hxm := List.mem_of_getElem? hxi
    have hx1 := (hwl x hxm).1
    have hx2 := (hwl x hxm).2
    have q1 := hsub _ (List.Mem.head _)
    have q2 := hsub _ (List.Mem.tail _ hm1)
    have q3 := hsub _ (List.Mem.tail _ hm2)
    have q4 := hsub _ (List.Mem.tail _ hmK)
    have q5 := hsub _ (List.Mem.tail _ hmW)
    k_steps
    · refine ⟨_, _, nw, rfl, by assumption, by assumption, off, .inr ⟨_, q5, rfl, _, rfl⟩, hsub, ?_⟩
      rw [someW_take hxi, if_pos (by assumption)]
      exact strsAre_snoc hys
    · refine ⟨_, _, nw, rfl, F', N', off, .inr ⟨_, q5, rfl, _, rfl⟩, hsub, ?_⟩
      rw [someW_take hxi, if_neg (by simp [*])]
      exact hys
  · intro ys nw hJ D h tk F1 N1 off1
    obtain ⟨hsub, hys⟩ := hJ
    rw [show wv.toArray.size = ws.length by rw [List.size_toArray]; exact strsAre_len hW, List.take_length] at hys
    have N2 : News g' L' h ((D, LCg.lst ys) :: (L' + 1, oc) :: news) := fun q hq => N1 q (by
      rcases List.mem_cons.mp hq with rfl | hq
      · exact .head _
      · exact .tail _ (hsub q hq))
    clear N1 F' N' off1 hsub
    generalize hpl : someW ws = plain at hys
    dsimp only
    k_steps
    refine LCt.CompSrcT.ledger (by rfl) (by k_asm) (by k_asm) (List.Mem.head _) (by rw [List.size_toArray, strsAre_len hys, sizeLine_eq, ← hpl]; exact Nat.le_trans (someW_len _) (by omega)) ?_
    intro g1
    refine compT_inv (J := fun i ys2 nw => (∀ q ∈ (D, LCg.lst ys) :: (L' + 1, oc) :: news, q ∈ nw) ∧ PairsIn nw ys2 (selA kvsK kvsN (plain.take i))) ?_ ?_ _ _ _ _ (Nat.zero_add _) ⟨fun q h => h, pairsIn_nil⟩
    · intro i ys2 nw v I oI C oC D2 m₂ h tk E' hi hJ hP hC hx F' N' off ne
      obtain ⟨hsub, hps⟩ := hJ
      obtain ⟨x, t, rfl, hxi⟩ := strsAre_at hys (by simpa using hP)
      have q1 := hsub _ (List.Mem.tail _ (List.Mem.head _))
      have q2 := hsub _ (List.Mem.tail _ (List.Mem.tail _ hm1))
      have q3 := hsub _ (List.Mem.tail _ (List.Mem.tail _ hm2))
      have q4 := hsub _ (List.Mem.tail _ (List.Mem.tail _ hmN))
      have q5 := hsub _ (List.Mem.head _)
      have q6 := hsub _ (List.Mem.tail _ (List.Mem.tail _ hmK))
      k_steps
      · refine ⟨_, _, _ :: nw, rfl, by assumption, news_swap3 (by assumption), off3_cons (by assumption) off, .inr ⟨_, .tail _ q5, rfl, _, rfl⟩, fun q hq => .tail _ (hsub q hq), ?_⟩
        rw [selA_take hxi, if_pos (by assumption), hv9]
        exact pairsIn_snoc hps
      · refine ⟨_, _, nw, rfl, F', N', off, .inr ⟨_, q5, rfl, _, rfl⟩, hsub, ?_⟩
        rw [selA_take hxi, if_neg (by simp [*])]
        simpa using hps
      · refine ⟨_, _, nw, rfl, F', N', off, .inr ⟨_, q5, rfl, _, rfl⟩, hsub, ?_⟩
        rw [selA_take hxi, show valueAt kvsN x = none by simp_all]
        simpa using hps
    · intro ys2 nw hJ D2 h tk F3 N3 off3
      obtain ⟨hsub, hps⟩ := hJ
      rw [show ys.toArray.size = plain.length by rw [List.size_toArray]; exact strsAre_len hys, List.take_length] at hps
      have hlen : (selA kvsK kvsN plain).length ≤ 1000 := Nat.le_trans (selA_len _ _ _) (Nat.le_trans (by rw [← hpl]; exact someW_len _) (by omega))
      have hps' := pairsIn_sub hps (fun q hq => List.Mem.tail (D2, LCg.lst ys2) hq)
      have hm9 : (D2, LCg.lst ys2) ∈ (D2, LCg.lst ys2) :: nw := .head _
      dsimp only
      k_steps
      subst hpl
      exact ret _ _ _ _ (by assumption) (fun p hp => (by assumption : News h₀ L _ ((d', o') :: (D2, LCg.lst ys2) :: nw)) p (by
        rcases List.mem_cons.mp hp with rfl | hp
        · exact .head _
        · exact .tail _ (.tail _ (hsub _ (.tail _ (.tail _ hp)))))) (allLt_of fun p hp => ktn_ltOf l1 p (.tail _ (hsub _ (.tail _ (.tail _ hp))))) lo' hd'
end

/-! Loops -/
theorem strRest_at {prog : Program} {w : World} {A : Around} {E : Value → Shared → Prop} {h₀ : Heap} {env : Env} {x : Str} {body : List Stmt} {Q : Flow → Shared → Prop} {s : Shared} {I : Addr} {l : List Str} {m : Str → Option Value} {news : List (Addr × Obj)}
    (h : StrRest prog w A E h₀ env x body Q s I l m news) : StrRest prog w A E h₀ env x body Q s I l m news := h
theorem itemsRest_at {prog : Program} {w : World} {A : Around} {E : Value → Shared → Prop} {h₀ : Heap} {env : Env} {target : PySem.Expr} {body : List Stmt} {Q : Flow → Shared → Prop} {s : Shared} {ws : List (Addr × String)} {keep : List (Addr × Obj)} {l : List Itm} {m : Str → Option Value} {news : List (Addr × Obj)}
    (h : ItemsRest prog w A E h₀ env target body Q s ws keep l m news) : ItemsRest prog w A E h₀ env target body Q s ws keep l m news := h
section
variable {prog : Program} {w : World} {A : Around} {E : Value → Shared → Prop} {s : Shared} {h₀ : Heap} {env : Env} {x : Str} {body : List Stmt} {Q : Flow → Shared → Prop}
theorem unrPost_mono {L I : Addr} {it : Obj} {s₁ s₂ : Shared} {rest rest' : (Str → Option Value) → List (Addr × Obj) → Prop} {f : Flow}
    (h : UnrPost h₀ L s₁ I it rest Q f s₂) (k : ∀ m n, rest m n → rest' m n) : UnrPost h₀ L s₁ I it rest' Q f s₂ := by
  cases f with
  | ret v => exact h
  | brk => exact h
  | _ => obtain ⟨h', tk, m', nw, e, F, N, o, r⟩ := h; exact ⟨h', tk, m', nw, e, F, N, o, k _ _ r⟩
theorem unrPostW_mono {L : Addr} {its : List (Addr × Obj)} {s₁ s₂ : Shared} {rest rest' : (Str → Option Value) → List (Addr × Obj) → Prop} {f : Flow}
    (h : UnrPostW h₀ L s₁ its rest Q f s₂) (k : ∀ m n, rest m n → rest' m n) : UnrPostW h₀ L s₁ its rest' Q f s₂ := by
  cases f with
  | ret v => exact h
  | brk => exact h
  | _ => obtain ⟨h', tk, m', nw, e, F, N, o, r⟩ := h; exact ⟨h', tk, m', nw, e, F, N, o, k _ _ r⟩
/-- a walk over a text's signs by an invariant -/
theorem strRest_inv {I : Addr} {l : List Str} (J : Nat → (Str → Option Value) → List (Addr × Obj) → Prop)
    (turn : ∀ i c m news, l[i]? = some c → J i m news → ∀ (u : Tok) (it : Obj) h tk, Fr h₀ env.locals h (fun y => if y = x then some (.str c u) else m y) → News h₀ env.locals h ((I, it) :: news) →
      wpAny (model prog w) A (execs body env) (UnrPost h₀ env.locals { s with heap := h, toks := tk } I it (fun m' n' => J (i + 1) m' n') Q) E { s with heap := h, toks := tk })
    (fin : ∀ m news, J l.length m news → ∀ h tk, Fr h₀ env.locals h m → News h₀ env.locals h news → Q .next { s with heap := h, toks := tk })
    {m : Str → Option Value} {news : List (Addr × Obj)} (h0 : J 0 m news) : StrRest prog w A E h₀ env x body Q s I l m news := by
  have go : ∀ (r : List Str) (i : Nat), l.drop i = r → i ≤ l.length → ∀ m news, J i m news → StrRest prog w A E h₀ env x body Q s I r m news := by
    intro r
    induction r with
    | nil =>
      intro i e hi m news j
      have e2 : i = l.length := by have := congrArg List.length e; simp at this; omega
      subst e2
      exact fin m news j
    | cons c r ih =>
      intro i e hi m news j
      have hi2 : i < l.length := by have := congrArg List.length e; simp at this; omega
      have hc : l[i]? = some c := by rw [← List.head?_drop, e]; rfl
      have hr : l.drop (i + 1) = r := by rw [← List.drop_drop, e]; rfl
      exact StrRest.succ fun u it h tk F N => wpAny_mono (turn i c m news hc j u it h tk F N) (fun f s' z => unrPost_mono z fun m' n' z => ih (i + 1) hr hi2 m' n' z) fun _ _ z => z
  exact go l 0 (by simp) (Nat.zero_le _) m news h0
/-- a walk over items by an invariant -/
theorem items_inv {target : PySem.Expr} {ws : List (Addr × String)} {keep : List (Addr × Obj)} {l : List Itm} (J : Nat → (Str → Option Value) → List (Addr × Obj) → Prop)
    (turn : ∀ i a m news, l[i]? = some a → J i m news → ∀ v h tk, a.Is v h → Fr h₀ env.locals h m → AllObj ws (fun its => News h₀ env.locals h (its ++ news) →
      wpAny (model prog w) A (assign target env v) (fun _ s₂ => wpAny (model prog w) A (execs body env) (UnrPostW h₀ env.locals { s with heap := h, toks := tk } its (fun m' n' => SubL keep n' ∧ J (i + 1) m' n') Q) E s₂) E { s with heap := h, toks := tk }))
    (fin : ∀ m news, J l.length m news → ∀ h tk, Fr h₀ env.locals h m → News h₀ env.locals h news → Q .next { s with heap := h, toks := tk })
    {m : Str → Option Value} {news : List (Addr × Obj)} (h0 : J 0 m news) : ItemsRest prog w A E h₀ env target body Q s ws keep l m news := by
  have allMono : ∀ {ws : List (Addr × String)} {k k' : List (Addr × Obj) → Prop}, (∀ its, k its → k' its) → AllObj ws k → AllObj ws k' := by
    intro ws
    induction ws with
    | nil => intro k k' hk h; exact hk _ h
    | cons a r ih => intro k k' hk h; exact fun o e => ih (fun its z => hk _ z) (h o e)
  have go : ∀ (r : List Itm) (i : Nat), l.drop i = r → i ≤ l.length → ∀ m news, J i m news → ItemsRest prog w A E h₀ env target body Q s ws keep r m news := by
    intro r
    induction r with
    | nil =>
      intro i e hi m news j
      have e2 : i = l.length := by have := congrArg List.length e; simp at this; omega
      subst e2
      exact fin m news j
    | cons c r ih =>
      intro i e hi m news j
      have hi2 : i < l.length := by have := congrArg List.length e; simp at this; omega
      have hc : l[i]? = some c := by rw [← List.head?_drop, e]; rfl
      have hr : l.drop (i + 1) = r := by rw [← List.drop_drop, e]; rfl
      intro v h tk hv F
      exact allMono (fun its z N => wpAny_mono (z N) (fun _ s' z => wpAny_mono z (fun f s' z => unrPostW_mono z fun m' n' z => ⟨z.1, ih (i + 1) hr hi2 m' n' z.2⟩) fun _ _ z => z) fun _ _ z => z) (turn i c m news hc j v h tk hv F)
  exact go l 0 (by simp) (Nat.zero_le _) m news h0
end

/-! Plain -/
theorem valueAt_stored {K : Type} [DecidableEq K] (kvs : List (K × Value)) (k : K) (v : Value) (j : K) : valueAt (stored kvs k v) j = if k = j then some v else valueAt kvs j := by
  unfold stored
  split
  · rename_i h
    unfold valueAt
    induction kvs with
    | nil => simp at h
    | cons p r ih =>
      by_cases hp : p.1 = k
      · by_cases hk : k = j
        · simp [hp, hk]
        · by_cases hr : r.any (fun kv => decide (kv.1 = k)) = true
          · have i := ih hr
            simp only [List.map_cons, hp, if_true, List.find?_cons]
            simp [hk] at i ⊢
            exact i
          · have e : (r.map fun kv => if kv.1 = k then (kv.1, v) else kv) = r := map_store_of_not_mem r k v (fun hm => by
              obtain ⟨q, hq, e⟩ := List.mem_map.mp hm
              exact hr (List.any_eq_true.mpr ⟨q, hq, decide_eq_true e⟩))
            simp only [List.map_cons, hp, if_true, e, List.find?_cons]
            simp [hk]
      · have hr : r.any (fun kv => decide (kv.1 = k)) = true := by simpa [hp] using h
        have := ih hr
        by_cases hj : p.1 = j
        · have : k ≠ j := fun e => hp (by rw [hj, e])
          simp [hj, this, Ne.symm this]
        · simp [hp, hj]
          simpa using this
  · rename_i h
    unfold valueAt
    rw [List.find?_append]
    by_cases hk : k = j
    · subst hk
      have : kvs.find? (fun kv => decide (kv.1 = k)) = none := by
        rw [List.find?_eq_none]; intro q hq e; exact h (List.any_eq_true.mpr ⟨q, hq, e⟩)
      simp only [this]
      simp
    · cases kvs.find? (fun kv => decide (kv.1 = j)) <;> simp [hk]
theorem stored_new {K : Type} [DecidableEq K] (kvs : List (K × Value)) (k : K) (v : Value) (h : k ∉ kvs.map (·.1)) : stored kvs k v = kvs ++ [(k, v)] := by
  unfold stored
  rw [if_neg]
  intro hm
  obtain ⟨q, hq, e⟩ := List.any_eq_true.mp hm
  exact h (List.mem_map.mpr ⟨q, hq, by simpa using e⟩)
theorem storeAll_append {K : Type} [DecidableEq K] (r : List (K × Value)) : ∀ pre : List (K × Value), ((pre ++ r).map (·.1)).Nodup → storeAll pre r = pre ++ r := by
  induction r with
  | nil => intro pre _; simp [storeAll]
  | cons p r ih =>
    intro pre h
    show storeAll (stored pre p.1 p.2) r = _
    have hn : p.1 ∉ pre.map (·.1) := by
      intro hm
      rw [List.map_append, List.nodup_append] at h
      exact h.2.2 _ hm _ (by simp) rfl
    rw [stored_new pre p.1 p.2 hn, ih _ (by simpa using h)]
    simp
theorem storeAll_same {K : Type} [DecidableEq K] (kvs : List (K × Value)) (h : (kvs.map (·.1)).Nodup) : storeAll [] kvs = kvs := by
  have := storeAll_append kvs [] (by simpa using h)
  simpa using this
theorem nodup_of {prog : Program} {w : World} {K : Type} [DecidableEq K] {knd : KeyKind prog w K} {o : Obj} {kvs : List (K × Value)} (h : o.IsDictOf knd kvs) : (kvs.map (·.1)).Nodup := by
  obtain ⟨es, ep, _, _, _, _, n⟩ := h; exact n
/-- each value is one of the three kinds -/
def K3 (kvs : List (Str × Value)) : Prop := ∀ k v, valueAt kvs k = some v → ∃ y u, v = .str y u ∧ (y = Str.ofString "text" ∨ y = Str.ofString "whole" ∨ y = Str.ofString "decimal")
theorem K3.allStr {kvs : List (Str × Value)} (h : K3 kvs) : AllStr kvs := fun k v e => let ⟨y, u, e, _⟩ := h k v e; ⟨y, u, e⟩
theorem K3.nil : K3 [] := fun _ _ e => by cases e
theorem K3.stored {kvs : List (Str × Value)} (h : K3 kvs) {k y : Str} {u : Tok} (hy : y = Str.ofString "text" ∨ y = Str.ofString "whole" ∨ y = Str.ofString "decimal") : K3 (stored kvs k (.str y u)) := by
  intro j v e
  rw [valueAt_stored] at e
  split at e
  · cases e; exact ⟨y, u, rfl, hy⟩
  · exact h j v e
theorem K3.getS {kvs : List (Str × Value)} (h : K3 kvs) (k : Str) : getS kvs k (Str.ofString "decimal") = Str.ofString "text" ∨ getS kvs k (Str.ofString "decimal") = Str.ofString "whole" ∨ getS kvs k (Str.ofString "decimal") = Str.ofString "decimal" := by
  unfold Mine.getS
  cases e : valueAt kvs k with
  | none => exact .inr (.inr rfl)
  | some v => obtain ⟨y, u, rfl, hy⟩ := h k v e; exact hy
theorem K3.ownK {kvs : List (Str × Value)} (h : K3 kvs) (x : Str) : ownK kvs x = Str.ofString "text" ∨ ownK kvs x = Str.ofString "whole" ∨ ownK kvs x = Str.ofString "decimal" := by
  unfold Mine.ownK
  split; · exact .inl rfl
  split; · exact .inr (.inl rfl)
  split; · exact .inr (.inr rfl)
  exact h.getS _
def ValOK (led : List (Addr × Obj)) (v : Value) : Prop := (∃ i t, v = .int i t) ∨ (∃ x t, v = .str x t) ∨ (∃ q i t j u, v = .ref q ∧ (q, tupOf [.int i t, .int j u]) ∈ led)
theorem ValOK.mono {led led' : List (Addr × Obj)} {v : Value} (h : ValOK led v) (k : ∀ p ∈ led, p ∈ led') : ValOK led' v := by
  rcases h with h | h | ⟨q, i, t, j, u, e, m⟩
  · exact .inl h
  · exact .inr (.inl h)
  · exact .inr (.inr ⟨q, i, t, j, u, e, k _ m⟩)
def names8 : List Str := [Str.ofString "A", Str.ofString "AB", Str.ofString "B", Str.ofString "B$", Str.ofString "C%", Str.ofString "I", Str.ofString "I!", Str.ofString "S$"]
def arrs4 : List Str := [Str.ofString "A", Str.ofString "I", Str.ofString "I%", Str.ofString "S"]
theorem names8_len : ∀ x ∈ names8, 0 < x.length ∧ x.length ≤ 2 := by
  intro x hx
  simp only [names8, List.mem_cons, List.not_mem_nil, or_false] at hx
  rcases hx with rfl | rfl | rfl | rfl | rfl | rfl | rfl | rfl
  all_goals exact ⟨Nat.lt_of_sub_pos (by decide +kernel), Nat.le_of_ble_eq_true (by decide +kernel)⟩
theorem arrs4_len : ∀ x ∈ arrs4, 0 < x.length ∧ x.length ≤ 2 := by
  intro x hx
  simp only [arrs4, List.mem_cons, List.not_mem_nil, or_false] at hx
  rcases hx with rfl | rfl | rfl | rfl
  all_goals exact ⟨Nat.lt_of_sub_pos (by decide +kernel), Nat.le_of_ble_eq_true (by decide +kernel)⟩
/-- the dict of names: keys of the eight, values of the three forms -/
def NamesOK (led : List (Addr × Obj)) (kvs : List (Str × Value)) : Prop := ∀ k v, valueAt kvs k = some v → k ∈ names8 ∧ ValOK led v
theorem NamesOK.nil {led : List (Addr × Obj)} : NamesOK led [] := fun _ _ e => by cases e
theorem NamesOK.mono {led led' : List (Addr × Obj)} {kvs : List (Str × Value)} (h : NamesOK led kvs) (k : ∀ p ∈ led, p ∈ led') : NamesOK led' kvs := fun a v e => ⟨(h a v e).1, (h a v e).2.mono k⟩
theorem NamesOK.stored {led : List (Addr × Obj)} {kvs : List (Str × Value)} (h : NamesOK led kvs) {k : Str} {v : Value} (hk : k ∈ names8) (hv : ValOK led v) : NamesOK led (stored kvs k v) := by
  intro j u e
  rw [valueAt_stored] at e
  split at e
  · rename_i hj; subst hj; cases e; exact ⟨hk, hv⟩
  · exact h j u e
/-- the dict of arrays -/
def ArrsOK (led : List (Addr × Obj)) (kvs : List (Str × Value)) : Prop := ∀ k v, valueAt kvs k = some v → k ∈ arrs4 ∧ ∃ q t u, v = .ref q ∧ (q, listOf #[.str k t, .int 1 u] 0) ∈ led
theorem ArrsOK.nil {led : List (Addr × Obj)} : ArrsOK led [] := fun _ _ e => by cases e
theorem ArrsOK.mono {led led' : List (Addr × Obj)} {kvs : List (Str × Value)} (h : ArrsOK led kvs) (k : ∀ p ∈ led, p ∈ led') : ArrsOK led' kvs := fun a v e => let ⟨h1, q, t, u, e, m⟩ := h a v e; ⟨h1, q, t, u, e, k _ m⟩
theorem ArrsOK.stored {led : List (Addr × Obj)} {kvs : List (Str × Value)} (h : ArrsOK led kvs) {k : Str} {q : Addr} {t u : Tok} (hk : k ∈ arrs4) (hv : (q, listOf #[.str k t, .int 1 u] 0) ∈ led) : ArrsOK led (stored kvs k (.ref q)) := by
  intro j v e
  rw [valueAt_stored] at e
  split at e
  · rename_i hj; subst hj; cases e; exact ⟨hk, q, t, u, rfl, hv⟩
  · exact h j v e
/-- what the law calls its files, fields, rows told: it stays -/
def Stays (prog : Program) (w : World) (rest : List (Addr × Obj)) (fiA opA feA ouA inA trA : Addr) : Prop :=
  ∃ (oFi oOp oOm oFe : Obj) (omA ftA : Addr) (a b c d e f g h i j : Tok),
    ((fiA, oFi) ∈ rest ∧ (opA, oOp) ∈ rest ∧ (omA, oOm) ∈ rest ∧ (feA, oFe) ∈ rest ∧ (ftA, tupOf [.int 1 a, .int 0 b, .int 2 c]) ∈ rest ∧ (ouA, W.listOf #[.str (Str.ofString "one") d] 0) ∈ rest ∧ (inA, W.listOf #[.str (Str.ofString "in") e] 0) ∈ rest ∧ (trA, W.listOf #[.int 10 f, .int 40 g] 0) ∈ rest) ∧
    oFi.IsDictOf (PySem.strKind prog w) [(Str.ofString "F", .str (Str.ofString "ab") h)] ∧ oOp.IsDictOf (PySem.intKind prog w) [(1, .ref omA)] ∧ oOm.IsDictOf (PySem.strKind prog w) [(Str.ofString "mode", .str (Str.ofString "R") i), (Str.ofString "name", .str (Str.ofString "F") j)] ∧ oFe.IsDictOf (PySem.strKind prog w) [(Str.ofString "F$", .ref ftA)] ∧
    (fiA == sysModules) = false ∧ (opA == sysModules) = false ∧ (omA == sysModules) = false ∧ (feA == sysModules) = false
theorem kept3 {h₀ h h' : Heap} {L : Addr} {a b c : Addr} {oa ob oc : Obj} (k : Kept [a, b, c] h h') (N : News h₀ L h [(a, oa), (b, ob), (c, oc)]) (e1 : h'.get? a = some oa) (e2 : h'.get? c = some oc) : Kept [b] h h' := by
  intro q o e hq
  by_cases h1 : q = a
  · subst h1
    rw [(N (q, oa) (.head _)).1] at e
    cases e
    exact e1
  by_cases h2 : q = c
  · subst h2
    rw [(N (q, oc) (.tail _ (.tail _ (.head _)))).1] at e
    cases e
    exact e2
  exact k q o e (by simp at hq ⊢; exact ⟨h1, hq, h2⟩)
theorem news_sub {h₀ h : Heap} {L : Addr} {big small : List (Addr × Obj)} (N : News h₀ L h big) (s : ∀ p ∈ small, p ∈ big) : News h₀ L h small := fun p hp => N p (s p hp)
theorem off_2 {nw : List (Addr × Obj)} {a b : Addr} {oa ob : Obj} (h1 : ∀ p ∈ nw, p.1 ≠ a) (h2 : ∀ p ∈ nw, p.1 ≠ b) : ∀ p ∈ nw, ∀ q ∈ [(a, oa), (b, ob)], p.1 ≠ q.1 := by
  intro p hp q hq
  simp only [List.mem_cons, List.not_mem_nil, or_false] at hq
  rcases hq with rfl | rfl
  · exact h1 p hp
  · exact h2 p hp
theorem off_1 {nw : List (Addr × Obj)} {a : Addr} {oa : Obj} (h1 : ∀ p ∈ nw, p.1 ≠ a) : ∀ p ∈ nw, ∀ q ∈ [(a, oa)], p.1 ≠ q.1 := by
  intro p hp q hq
  rw [List.mem_singleton.mp hq]
  exact h1 p hp
theorem gt_ne {vals : List (Addr × Obj)} {a b : Addr} (h : ∀ p ∈ vals, @LT.lt Nat _ b p.1) (e : @LE.le Nat _ a b) : ∀ p ∈ vals, p.1 ≠ a := by
  intro p hp q
  have h1 := h p hp
  rw [q] at h1
  exact absurd h1 (Nat.not_lt.mpr e)
theorem allLt_all {d : Addr} {l : List (Addr × Obj)} (h : AllLt d l) : ∀ p ∈ l, @LT.lt Nat _ p.1 d := by
  induction l with
  | nil => intro p hp; cases hp
  | cons q r ih =>
    intro p hp
    rcases List.mem_cons.mp hp with rfl | hp
    · exact h.1
    · exact ih h.2 p hp
theorem allLt_ne {d : Addr} {l : List (Addr × Obj)} (h : AllLt d l) : ∀ p ∈ l, p.1 ≠ d := by
  intro p hp q
  have h1 := allLt_all h p hp
  rw [q] at h1
  exact absurd h1 (Nat.lt_irrefl _)
section
variable {prog : Program} {w : World} {A : Around} {E : Value → Shared → Prop} {s : Shared} {h₀ : Heap} {env : Env} {x : Str} {body : List Stmt} {Q : Flow → Shared → Prop}
theorem itemsRest_sub {target : PySem.Expr} {ws : List (Addr × String)} {keep : List (Addr × Obj)} {l : List Itm} {m : Str → Option Value} {news : List (Addr × Obj)} (news' : List (Addr × Obj))
    (sub : ∀ p ∈ news', p ∈ news) (h : ItemsRest prog w A E h₀ env target body Q s ws keep l m news') : ItemsRest prog w A E h₀ env target body Q s ws keep l m news := by
  have allMono : ∀ {ws : List (Addr × String)} {k k' : List (Addr × Obj) → Prop}, (∀ its, k its → k' its) → AllObj ws k → AllObj ws k' := by
    intro ws
    induction ws with
    | nil => intro k k' hk h; exact hk _ h
    | cons a r ih => intro k k' hk h; exact fun o e => ih (fun its z => hk _ z) (h o e)
  cases l with
  | nil => exact fun h' tk F N => h h' tk F fun p hp => N p (sub p hp)
  | cons a r =>
    intro v h' tk hv F
    exact allMono (fun its z N => z fun p hp => N p (by
      rcases List.mem_append.mp hp with hp | hp
      · exact List.mem_append.mpr (.inl hp)
      · exact List.mem_append.mpr (.inr (sub p hp)))) (h v h' tk hv F)
theorem strRest_sub {I : Addr} {l : List Str} {m : Str → Option Value} {news : List (Addr × Obj)} (news' : List (Addr × Obj))
    (sub : ∀ p ∈ news', p ∈ news) (h : StrRest prog w A E h₀ env x body Q s I l m news') : StrRest prog w A E h₀ env x body Q s I l m news := by
  cases l with
  | nil => exact fun h' tk F N => h h' tk F fun p hp => N p (sub p hp)
  | cons a r =>
    intro u it h' tk F N
    exact h u it h' tk F fun p hp => N p (by
      rcases List.mem_cons.mp hp with rfl | hp
      · exact .head _
      · exact .tail _ (sub p hp))
end

/-! Loops2 -/
theorem frame3 {a b c : Str} {m m₀ : Str → Option Value} (h : ∀ y, y ≠ a → y ≠ b → y ≠ c → m y = m₀ y) : m = fun y => if y = a then m y else if y = b then m y else if y = c then m y else m₀ y := by
  funext y
  split; · rfl
  split; · rfl
  split; · rfl
  exact h y ‹_› ‹_› ‹_›
section
variable {prog : Program} {w : World} {A : Around} {E : Value → Shared → Prop} {s : Shared} {h₀ : Heap} {env : Env} {x : Str} {body : List Stmt} {Q : Flow → Shared → Prop} {m₀ : Str → Option Value} {news : List (Addr × Obj)}
theorem items_inv3 {target : PySem.Expr} {ws : List (Addr × String)} {keep : List (Addr × Obj)} {l : List Itm} (a b c : Str) (J : Nat → List (Addr × Obj) → Prop)
    (turn : ∀ i it nw, l[i]? = some it → J i nw → ∀ (u : Str → Option Value) v h tk, it.Is v h → Fr h₀ env.locals h (fun y => if y = a then u y else if y = b then u y else if y = c then u y else m₀ y) → AllObj ws (fun its => News h₀ env.locals h (its ++ nw) →
      wpAny (model prog w) A (assign target env v) (fun _ s₂ => wpAny (model prog w) A (execs body env) (UnrPostW h₀ env.locals { s with heap := h, toks := tk } its (fun m' n' => SubL keep n' ∧ (∀ y, y ≠ a → y ≠ b → y ≠ c → m' y = m₀ y) ∧ J (i + 1) n') Q) E s₂) E { s with heap := h, toks := tk }))
    (fin : ∀ nw, J l.length nw → ∀ (u : Str → Option Value) h tk, Fr h₀ env.locals h (fun y => if y = a then u y else if y = b then u y else if y = c then u y else m₀ y) → News h₀ env.locals h nw → Q .next { s with heap := h, toks := tk })
    (h0 : J 0 news) : ItemsRest prog w A E h₀ env target body Q s ws keep l m₀ news := by
  refine items_inv (fun i m nw => (∀ y, y ≠ a → y ≠ b → y ≠ c → m y = m₀ y) ∧ J i nw) ?_ ?_ ⟨fun _ _ _ _ => rfl, h0⟩
  · intro i it m nw hi hj v h tk hv F
    rw [frame3 hj.1] at F
    exact turn i it nw hi hj.2 m v h tk hv F
  · intro m nw hj h tk F N
    rw [frame3 hj.1] at F
    exact fin nw hj.2 m h tk F N
theorem strRest_inv3 {I : Addr} {l : List Str} (a b : Str) (J : Nat → List (Addr × Obj) → Prop)
    (turn : ∀ i c nw, l[i]? = some c → J i nw → ∀ (u : Str → Option Value) (t : Tok) (it : Obj) h tk, Fr h₀ env.locals h (fun y => if y = x then some (.str c t) else if y = a then u y else if y = b then u y else m₀ y) → News h₀ env.locals h ((I, it) :: nw) →
      wpAny (model prog w) A (execs body env) (UnrPost h₀ env.locals { s with heap := h, toks := tk } I it (fun m' n' => (∀ y, y ≠ x → y ≠ a → y ≠ b → m' y = m₀ y) ∧ J (i + 1) n') Q) E { s with heap := h, toks := tk })
    (fin : ∀ nw, J l.length nw → ∀ (u : Str → Option Value) h tk, Fr h₀ env.locals h (fun y => if y = x then u y else if y = a then u y else if y = b then u y else m₀ y) → News h₀ env.locals h nw → Q .next { s with heap := h, toks := tk })
    (h0 : J 0 news) : StrRest prog w A E h₀ env x body Q s I l m₀ news := by
  refine strRest_inv (fun i m nw => (∀ y, y ≠ x → y ≠ a → y ≠ b → m y = m₀ y) ∧ J i nw) ?_ ?_ ⟨fun _ _ _ _ => rfl, h0⟩
  · intro i c m nw hi hj t it h tk F
    have e : (fun y => if y = x then some (Value.str c t) else m y) = fun y => if y = x then some (.str c t) else if y = a then m y else if y = b then m y else m₀ y := by
      funext y
      split; · rfl
      split; · rfl
      split; · rfl
      exact hj.1 y ‹_› ‹_› ‹_›
    rw [e] at F
    exact turn i c nw hi hj.2 m t it h tk F
  · intro m nw hj h tk F N
    rw [frame3 hj.1] at F
    exact fin nw hj.2 m h tk F N
end

/-! Own3 -/
theorem updF_at {d : Addr} {o : Obj} {l : List (Addr × Obj)} {g : Obj → List (Addr × Obj)} (U : UpdF d o l g) (o' : Obj) : Upd d o o' l (g o') := by
  induction U with
  | head h => exact Upd.head h
  | tail h _ ih => exact Upd.tail h ih
section
variable {w : World} {mean : ExcName → Option Value} {mg mb : Str → Option Value} {dp un : Nat} {gd : Option (List Code)} {cn : Str} {cs : Scope} {a : Addr} {ccd : Value} {cl : List (Str × Addr)} {outer : List Env} {A₀ : Around} {base h₀ : Heap} {L : Addr} {m : Str → Option Value} {s : Shared} {Q E : Value → Shared → Prop} {news news' : List (Addr × Obj)}
theorem own3_K {k : Addr} {x : Str} {t : Tok} {o : Obj} {kvs : List (Str × Value)}
    (B : Below A₀ base outer h₀) (F : Fr h₀ L s.heap m) (X : (hd.heap_39 w.params).In h₀) (N : News h₀ L s.heap news)
    (T : Top hd.view_39 (looseW hd.view_39 [Str.ofString "BasicError"]) mean mg mb h₀) (hk : cs.kind = .function) (hm : (k, o) ∈ news)
    (hkd : o.IsDictOf (PySem.strKind PySem.Challenge.rw_pf0005_01.row.prog w) kvs) (lo : (k == sysModules) = false)
    (hd : dp + 1 < recursionLimit) (_hu : un + 8 < cLine) (hx : 0 < x.length) (hx2 : x.length ≤ 100) (hv : K3 kvs)
    (ret1 : ∀ (q : Addr) (t : Tok) h' tk', ownK kvs x = Str.ofString "text" → Fr h₀ L h' m → News h₀ L h' ((q, tupOf [.str (Str.ofString "text") t, .bool (ownB kvs x)]) :: news) → AllLt q news → Q (.ref q) { s with heap := h', toks := tk' })
    (ret2 : ∀ (q : Addr) (t : Tok) h' tk', ownK kvs x = Str.ofString "whole" → Fr h₀ L h' m → News h₀ L h' ((q, tupOf [.str (Str.ofString "whole") t, .bool (ownB kvs x)]) :: news) → AllLt q news → Q (.ref q) { s with heap := h', toks := tk' })
    (ret3 : ∀ (q : Addr) (t : Tok) h' tk', ownK kvs x = Str.ofString "decimal" → Fr h₀ L h' m → News h₀ L h' ((q, tupOf [.str (Str.ofString "decimal") t, .bool (ownB kvs x)]) :: news) → AllLt q news → Q (.ref q) { s with heap := h', toks := tk' }) :
    wpAny (model PySem.Challenge.rw_pf0005_01.row.prog w) (ktrTop dp un gd cn cs L a ccd cl outer) (call (.ref 153) [.str x t, .ref k]) Q E s := by
  refine own_K B F X N T hk hm hkd lo hd _hu hx hx2 hv.allStr fun q t h' tk' F' N' l => ?_
  rcases hv.ownK x with e | e | e
  · rw [e] at N'; exact ret1 q t h' tk' e F' N' l
  · rw [e] at N'; exact ret2 q t h' tk' e F' N' l
  · rw [e] at N'; exact ret3 q t h' tk' e F' N' l
theorem take_F {pot scr : Addr} {n many : Int} {t u : Tok} {ep : Nat} {ws : List Value} {ns : List Int} {g : Obj → List (Addr × Obj)}
    (B : Below A₀ base outer h₀) (F : Fr h₀ L s.heap m) (X : (hd.heap_39 w.params).In h₀) (N : News h₀ L s.heap news)
    (T : Top hd.view_39 (looseW hd.view_39 [Str.ofString "BasicError"]) mean mg mb h₀) (hk : cs.kind = .function)
    (U : UpdF pot (listOf #[.int n t, .ref scr] ep) news g) (hs : (scr, listOf ws.toArray 0) ∈ news)
    (hI : IntsAre ws ns) (hn : 0 ≤ n) (hn2 : n ≤ 1000) (hm : 0 < many) (hm2 : many ≤ 8) (hps : @LT.lt Nat _ scr pot)
    (hd : dp + 1 < recursionLimit) (hu : un + 8 < cLine) (hlen : ns.length ≤ 48)
    (ret : ∀ (r : Int) (t t' : Tok) h' tk', 0 ≤ r → r < many → Fr h₀ L h' m → News h₀ L h' (g (listOf #[.int (n + 1) t', .ref scr] ep)) → Q (.int r t) { s with heap := h', toks := tk' }) :
    wpAny (model PySem.Challenge.rw_pf0005_01.row.prog w) (ktrTop dp un gd cn cs L a ccd cl outer) (call (.ref 146) [.ref pot, .int many u]) Q E s :=
  take_K (led := fun t' => g (listOf #[.int (n + 1) t', .ref scr] ep)) B F X N T hk (fun t' => updF_at U _) hs hI hn hn2 hm hm2 hps hd hu hlen ret
end

/-! PlainS -/
section
variable {prog : Program} {w : World} {A : Around} {E Q : Value → Shared → Prop} {s : Shared} {h₀ : Heap} {L : Addr} {m : Str → Option Value} {news : List (Addr × Obj)}
theorem strsAre_of {kvs : List (Str × Value)} : ∀ (vs : List Value), vs.length = kvs.length → (∀ (j : Nat) (v : Value), vs[j]? = some v → ∃ k x, kvs[j]? = some (k, x) ∧ (PySem.strKind prog w).is k v = true) → StrsAre vs (kvs.map (·.1)) := by
  induction kvs with
  | nil => intro vs hl _; cases vs with
    | nil => exact .nil
    | cons v r => simp at hl
  | cons p r ih =>
    intro vs hl h
    cases vs with
    | nil => simp at hl
    | cons v t =>
      obtain ⟨k, x, e, hk⟩ := h 0 v rfl
      obtain ⟨tk, rfl⟩ := Value.isStrOf_shape hk
      simp at e
      subst e
      exact .cons _ _ (ih t (by simpa using hl) fun j v hv => h (j + 1) v (by simpa using hv))
/-- list(d) of a dict of texts -/
theorem list_keys_K {d : Addr} {o : Obj} {kvs : List (Str × Value)} (hh : A.handled = none) (F : Fr h₀ L s.heap m) (N : News h₀ L s.heap news) (hp : (d, o) ∈ news) (hd : o.IsDictOf (PySem.strKind prog w) kvs) (lo : (d == sysModules) = false) (hn : kvs.length ≤ 1000)
    (k : ∀ (B : Addr) c vs h' tk, StrsAre vs (kvs.map (·.1)) → Fr h₀ L h' m → News h₀ L h' ((B, W.listOf vs.toArray c) :: news) → AllLt B news → Q (.ref B) { s with heap := h', toks := tk }) :
    wpAny (model prog w) A (call (.type "list") [.ref d]) Q E s := by
  obtain ⟨ep, hat⟩ := (kda_dict N hp hd).dictAt
  exact kdl_N (kdl_dict (knd := PySem.strKind prog w) (kvs := kvs) (ep := ep) lo) hh F N hat (kdl_size (by omega)) fun B c h' tk vs F' N' l1 hl hv => k B c vs h' tk (strsAre_of vs hl hv) F' N' (allLt_of l1)
end
theorem news_mix {h₀ h : Heap} {L : Addr} {as bs cs : List (Addr × Obj)} (N : News h₀ L h as) (M : News h₀ L h bs) (k : ∀ p ∈ cs, p ∈ as ∨ p ∈ bs) : News h₀ L h cs := fun p hp => (k p hp).elim (N p) (M p)
section
variable {prog : Program} {w : World} {A : Around} {E Q : Value → Shared → Prop} {s : Shared} {h₀ : Heap} {L : Addr} {m : Str → Option Value} {news : List (Addr × Obj)}
/-- two lists of the ledger, put together -/
theorem add_lists_K {l b : Addr} {vs ws : List Value} {n1 n2 : Nat} (F : Fr h₀ L s.heap m) (N : News h₀ L s.heap news) (h1 : (l, W.listOf vs.toArray n1) ∈ news) (h2 : (b, W.listOf ws.toArray n2) ∈ news) (hz : vs.length + ws.length ≤ 1000)
    (k : ∀ (D : Addr) h', Fr h₀ L h' m → News h₀ L h' ((D, W.listOf (vs ++ ws).toArray 0) :: news) → AllLt D news → Q (.ref D) { s with heap := h' }) :
    wpAny (model prog w) A (binaryOp .Add (.ref l) (.ref b)) Q E s :=
  add_lists (hsz := by rw [sizeLine_eq]; omega) F N ⟨_, (N _ h1).1, rfl, _, rfl⟩ ⟨_, (N _ h2).1, rfl, _, rfl⟩ fun h' F' N' => k _ h' F' N' (allLt_of fun p hp => Heap.lt_size (N p hp).1)
end
theorem in_words_K {prog : Program} {w : World} {A : Around} {E Q : Value → Shared → Prop} {s : Shared} {h₀ : Heap} {L l : Addr} {news : List (Addr × Obj)} {vs : List Value} {n : Nat} {ys : List Str} {k : Str} {t : Tok} (N : News h₀ L s.heap news) (hm : (l, ({ cls := .type "list", data := .seq vs.toArray n } : Obj)) ∈ news) (hi : StrsAre vs ys)
    (h : Q (.bool (ys.any (· == k))) s) : wpAny (model prog w) A (compareOp .In (.str k t) (.ref l)) Q E s :=
  in_list_strs ⟨_, (N _ hm).1, rfl, _, rfl⟩ hi h
theorem strsAre_app {vs us : List Value} {ws xs : List Str} (h : StrsAre vs ws) (k : StrsAre us xs) : StrsAre (vs ++ us) (ws ++ xs) := by
  induction h with
  | nil => exact k
  | cons y t _ ih => exact .cons _ _ ih
def zs3 : List Str := [Str.ofString "Z", Str.ofString "Z$", Str.ofString "Z%"]
def as5 : List Str := [Str.ofString "A()", Str.ofString "I()", Str.ofString "I%()", Str.ofString "S()", Str.ofString "Z()"]
theorem valueAt_get {K : Type} [DecidableEq K] : ∀ {kvs : List (K × Value)} {i : Nat} {k : K} {x : Value}, (kvs.map (·.1)).Nodup → kvs[i]? = some (k, x) → valueAt kvs k = some x := by
  intro kvs
  induction kvs with
  | nil => intro i k x _ h; simp at h
  | cons p r ih =>
    intro i k x hn h
    unfold valueAt
    rw [List.map_cons, List.nodup_cons] at hn
    cases i with
    | zero => simp at h; subst h; simp
    | succ i =>
      have hm : r[i]? = some (k, x) := by simpa using h
      have hk : k ∈ r.map (·.1) := List.mem_map.mpr ⟨_, List.mem_of_getElem? hm, rfl⟩
      have hne : ¬ p.1 = k := fun e => hn.1 (e ▸ hk)
      have := ih hn.2 hm
      unfold valueAt at this
      simpa [hne] using this
/-- the pairs that the law says are due -/
def dueP (kvsL : List (Str × Value)) (ws : List Str) (kvs : List (Str × Value)) : List (Str × Value) := kvs.filter fun p => ws.any (· == p.1) && ownB kvsL p.1
theorem dueP_take {kvsL kvs : List (Str × Value)} {ws : List Str} {i : Nat} {k : Str} {x : Value} (h : kvs[i]? = some (k, x)) : dueP kvsL ws (kvs.take (i + 1)) = if (ws.any (· == k) && ownB kvsL k) = true then dueP kvsL ws (kvs.take i) ++ [(k, x)] else dueP kvsL ws (kvs.take i) := filter_take h
theorem news_due {h₀ h : Heap} {L : Addr} {p q a b c : Addr × Obj} {nw : List (Addr × Obj)} (N : News h₀ L h (p :: q :: a :: b :: c :: nw)) : News h₀ L h (a :: b :: c :: p :: nw) := fun r hr => N r (by
  simp only [List.mem_cons] at hr ⊢
  rcases hr with h | h | h | h | h
  · exact .inr (.inr (.inl h))
  · exact .inr (.inr (.inr (.inl h)))
  · exact .inr (.inr (.inr (.inr (.inl h))))
  · exact .inl h
  · exact .inr (.inr (.inr (.inr (.inr h)))))
theorem news_due2 {h₀ h : Heap} {L : Addr} {q : Addr × Obj} {nw : List (Addr × Obj)} (N : News h₀ L h (q :: nw)) : News h₀ L h nw := fun r hr => N r (.tail _ hr)
theorem Stays.mono {prog : Program} {w : World} {r r' : List (Addr × Obj)} {a b c d e f : Addr} (h : Stays prog w r a b c d e f) (k : ∀ p ∈ r, p ∈ r') : Stays prog w r' a b c d e f := by
  obtain ⟨o1, o2, o3, o4, q1, q2, t1, t2, t3, t4, t5, t6, t7, t8, t9, t10, ⟨m1, m2, m3, m4, m5, m6, m7, m8⟩, z⟩ := h
  exact ⟨o1, o2, o3, o4, q1, q2, t1, t2, t3, t4, t5, t6, t7, t8, t9, t10, ⟨k _ m1, k _ m2, k _ m3, k _ m4, k _ m5, k _ m6, k _ m7, k _ m8⟩, z⟩
theorem off1_app {D : Addr} : ∀ {xs ys : List (Addr × Obj)}, LCg.Off1 D (xs ++ ys) → LCg.Off1 D ys
  | [], _, h => h
  | _ :: _, _, h => off1_app h.2
/-- the keys of the arrays that the law says are due -/
def gridK (kvsL : List (Str × Value)) (ws : List Str) (kvs : List (Str × Value)) : List Str := (kvs.filter fun p => ws.any (· == p.1 ++ Str.ofString "()") && ownB kvsL p.1).map (·.1)
theorem gridK_take {kvsL kvs : List (Str × Value)} {ws : List Str} {i : Nat} {k : Str} {x : Value} (h : kvs[i]? = some (k, x)) : gridK kvsL ws (kvs.take (i + 1)) = if (ws.any (· == k ++ Str.ofString "()") && ownB kvsL k) = true then gridK kvsL ws (kvs.take i) ++ [k] else gridK kvsL ws (kvs.take i) := by
  unfold gridK
  rw [filter_take h]
  split <;> simp_all
/-- pairs of a name and a new list of the name and 1 -/
def GridsIn (led : List (Addr × Obj)) (ps : List (Str × Value)) : Prop := ∀ k v, (k, v) ∈ ps → ∃ q t u, v = .ref q ∧ (q, W.listOf #[.str k t, .int 1 u] 0) ∈ led
theorem GridsIn.nil {led : List (Addr × Obj)} : GridsIn led [] := fun _ _ h => nomatch h
theorem GridsIn.mono {led led' : List (Addr × Obj)} {ps : List (Str × Value)} (h : GridsIn led ps) (k : ∀ p ∈ led, p ∈ led') : GridsIn led' ps := fun a v m => let ⟨q, t, u, e, z⟩ := h a v m; ⟨q, t, u, e, k _ z⟩
theorem GridsIn.snoc {led : List (Addr × Obj)} {ps : List (Str × Value)} {k : Str} {q : Addr} {t u : Tok} (h : GridsIn led ps) (z : (q, W.listOf #[.str k t, .int 1 u] 0) ∈ led) : GridsIn led (ps ++ [(k, .ref q)]) := fun a v m => by
  rcases List.mem_append.mp m with m | m
  · exact h a v m
  · cases List.mem_singleton.mp m; exact ⟨q, t, u, rfl, z⟩
theorem news_grid {h₀ h : Heap} {L : Addr} {p r q a b c : Addr × Obj} {nw : List (Addr × Obj)} (N : News h₀ L h (p :: r :: q :: a :: b :: c :: nw)) : News h₀ L h (a :: b :: c :: p :: r :: nw) := fun z hr => N z (by
  simp only [List.mem_cons] at hr ⊢
  rcases hr with h | h | h | h | h | h
  · exact .inr (.inr (.inr (.inl h)))
  · exact .inr (.inr (.inr (.inr (.inl h))))
  · exact .inr (.inr (.inr (.inr (.inr (.inl h)))))
  · exact .inl h
  · exact .inr (.inl h)
  · exact .inr (.inr (.inr (.inr (.inr (.inr h))))))
/-- above all of these -/
def Over (ex base : List (Addr × Obj)) : Prop := ∀ p ∈ ex, ∀ q ∈ base, @LT.lt Nat _ q.1 p.1
theorem Over.nil {base : List (Addr × Obj)} : Over [] base := fun _ h => nomatch h
theorem Over.cons {ex base : List (Addr × Obj)} {d : Addr} {o : Obj} (h : AllLt d base) (k : Over ex base) : Over ((d, o) :: ex) base := fun p hp q hq => by
  rcases List.mem_cons.mp hp with rfl | hp
  · exact allLt_all h q hq
  · exact k p hp q hq
theorem allLt_app {d : Addr} {xs ys : List (Addr × Obj)} (h : AllLt d (xs ++ ys)) : AllLt d ys := allLt_of fun p hp => allLt_all h p (List.mem_append.mpr (.inr hp))
/-- the attributes of a world -/
structure WAttr (es : List DictEntry) (nA aA kA fA ouA inA fiA opA feA daA trA coA : Addr) (sp ba se st de ha er : Int) (ih it : Bool) (rw ec : Str) : Prop where
  names : getL (Str.ofString "names") es = some (some (.ref nA))
  arrays : getL (Str.ofString "arrays") es = some (some (.ref aA))
  kinds : getL (Str.ofString "kinds") es = some (some (.ref kA))
  fns : getL (Str.ofString "fns") es = some (some (.ref fA))
  out : getL (Str.ofString "out") es = some (some (.ref ouA))
  inputs : getL (Str.ofString "inputs") es = some (some (.ref inA))
  files : getL (Str.ofString "files") es = some (some (.ref fiA))
  opened : getL (Str.ofString "open") es = some (some (.ref opA))
  fields : getL (Str.ofString "fields") es = some (some (.ref feA))
  data : getL (Str.ofString "data") es = some (some (.ref daA))
  traces : getL (Str.ofString "traces") es = some (some (.ref trA))
  common : getL (Str.ofString "common") es = some (some (.ref coA))
  row : ∃ t, getL (Str.ofString "row") es = some (some (.str rw t))
  spot : ∃ t, getL (Str.ofString "spot") es = some (some (.int sp t))
  base : ∃ t, getL (Str.ofString "base") es = some (some (.int ba t))
  seed : ∃ t, getL (Str.ofString "seed") es = some (some (.int se t))
  steps : ∃ t, getL (Str.ofString "steps") es = some (some (.int st t))
  depth : ∃ t, getL (Str.ofString "depth") es = some (some (.int de t))
  handler : ∃ t, getL (Str.ofString "handler") es = some (some (.int ha t))
  is_handling : getL (Str.ofString "is_handling") es = some (some (.bool ih))
  error_line : ∃ t, getL (Str.ofString "error_line") es = some (some (.int er t))
  error_code : ∃ t, getL (Str.ofString "error_code") es = some (some (.str ec t))
  is_traced : getL (Str.ofString "is_traced") es = some (some (.bool it))
theorem news_rot {h₀ h : Heap} {L : Addr} {g : Addr × Obj} {ex base rest : List (Addr × Obj)} (N : News h₀ L h (g :: (ex ++ (base ++ rest)))) : News h₀ L h (g :: (base ++ (ex ++ rest))) := fun z hr => N z (by
  simp only [List.mem_cons, List.mem_append] at hr ⊢
  rcases hr with h | h | h | h
  · exact .inl h
  · exact .inr (.inr (.inl h))
  · exact .inr (.inl h)
  · exact .inr (.inr (.inr h)))

/-! Attr -/
theorem isStr_inj {v : Value} {a b : Str} (h : v.isStr a = true) (k : v.isStr b = true) : a = b := by
  cases v <;> simp_all [Value.isStr]
theorem getL_find {k : Str} {es : List DictEntry} {v : Value} : getL k es = some (some v) ↔ ∃ e, es.find? (·.key.isStr k) = some e ∧ e.val = v := by
  unfold getL
  cases h : es.find? (·.key.isStr k) with
  | some e => simp
  | none => simp only; split <;> simp
theorem putL_len {name : Str} {hsh : Int} {key v : Value} : ∀ {es : List DictEntry}, (es.find? (·.key.isStr name)).isSome = true → (putL name hsh key v es).length = es.length
  | [], h => by simp at h
  | e :: r, h => by
    unfold putL
    by_cases c : e.key.isStr name = true
    · simp [c]
    · have c' : e.key.isStr name = false := by simpa using c
      simp only [c', Bool.false_eq_true, if_false, List.length_cons]
      rw [putL_len (by simpa [List.find?_cons, c'] using h)]
theorem putN_same {name : Str} {es : List DictEntry} {n : Nat} (h : (es.find? (·.key.isStr name)).isSome = true) : putN name es n = n := by
  unfold putN
  rw [if_pos]
  obtain ⟨e, he⟩ := Option.isSome_iff_exists.mp h
  exact List.any_eq_true.mpr ⟨e, List.mem_of_find?_eq_some he, List.find?_some (p := fun e : DictEntry => e.key.isStr name) he⟩
theorem putL_same {name : Str} {hsh : Int} {key v : Value} : ∀ {es : List DictEntry}, (es.find? (·.key.isStr name)).isSome = true → ∃ e, (putL name hsh key v es).find? (·.key.isStr name) = some e ∧ e.val = v
  | [], h => by simp at h
  | e :: r, h => by
    unfold putL
    by_cases c : e.key.isStr name = true
    · exact ⟨⟨e.hash, e.key, v⟩, by simp [c], rfl⟩
    · have c' : e.key.isStr name = false := by simpa using c
      obtain ⟨e2, a, b⟩ := putL_same (hsh := hsh) (key := key) (v := v) (by simpa [List.find?_cons, c'] using h : (r.find? (·.key.isStr name)).isSome = true)
      exact ⟨e2, by simp only [c', Bool.false_eq_true, if_false, List.find?_cons, a], b⟩
theorem putL_other {name k : Str} {hsh : Int} {key v : Value} (hk : k ≠ name) : ∀ {es : List DictEntry}, (es.find? (·.key.isStr name)).isSome = true → (putL name hsh key v es).find? (·.key.isStr k) = es.find? (·.key.isStr k)
  | [], h => by simp at h
  | e :: r, h => by
    unfold putL
    by_cases c : e.key.isStr name = true
    · have d : e.key.isStr k = false := by
        cases d : e.key.isStr k with
        | false => rfl
        | true => exact absurd (isStr_inj d c) hk
      simp [c, List.find?_cons, d]
    · have c' : e.key.isStr name = false := by simpa using c
      have := putL_other hk (hsh := hsh) (key := key) (v := v) (by simpa [List.find?_cons, c'] using h : (r.find? (·.key.isStr name)).isSome = true)
      simp only [c', Bool.false_eq_true, if_false, List.find?_cons, this]
/-- the attributes that are known -/
def HasA (es : List DictEntry) (l : List (Str × Value)) : Prop := ∀ k v, l.lookup k = some v → getL k es = some (some v)
theorem HasA.put {es : List DictEntry} {l : List (Str × Value)} {name : Str} {hsh : Int} {key v : Value} (h : HasA es l) (hl : (l.lookup name).isSome = true) : HasA (putL name hsh key v es) ((name, v) :: l) := by
  obtain ⟨v0, e0⟩ := Option.isSome_iff_exists.mp hl
  obtain ⟨e, he, _⟩ := getL_find.mp (h name v0 e0)
  have hs : (es.find? (·.key.isStr name)).isSome = true := by rw [he]; rfl
  intro k u hu
  rw [List.lookup_cons] at hu
  by_cases c : k = name
  · subst c
    simp at hu
    subst hu
    exact getL_find.mpr (putL_same hs)
  · have c' : (k == name) = false := by simpa using c
    rw [c'] at hu
    obtain ⟨e2, a, b⟩ := getL_find.mp (h k u hu)
    exact getL_find.mpr ⟨e2, by rw [putL_other c hs]; exact a, b⟩
theorem HasA.isIn {es : List DictEntry} {l : List (Str × Value)} {name : Str} (h : HasA es l) (hl : (l.lookup name).isSome = true) : (es.find? (·.key.isStr name)).isSome = true := by
  obtain ⟨v0, e0⟩ := Option.isSome_iff_exists.mp hl
  obtain ⟨e, he, _⟩ := getL_find.mp (h name v0 e0)
  rw [he]; rfl
theorem lookup_mem {l : List (Str × Value)} {k : Str} {v : Value} (h : l.lookup k = some v) : (k, v) ∈ l := by
  induction l with
  | nil => simp at h
  | cons p r ih =>
    rw [List.lookup_cons] at h
    by_cases c : k = p.1
    · subst c; simp at h; subst h; exact .head _
    · have c' : (k == p.1) = false := by simpa using c
      rw [c'] at h
      exact .tail _ (ih h)
theorem HasA.of {es : List DictEntry} {l : List (Str × Value)} (h : ∀ p ∈ l, getL p.1 es = some (some p.2)) : HasA es l := fun k v e => h (k, v) (lookup_mem e)
theorem HasA.sub {es : List DictEntry} {l l' : List (Str × Value)} (h : HasA es l) (k : ∀ p ∈ l', l.lookup p.1 = some p.2) : HasA es l' := .of fun p hp => h p.1 p.2 (k p hp)
section
variable {prog : Program} {w : World} {A A₀ : Around} {E : Value → Shared → Prop} {s : Shared} {K : Frag} {x C dx L : Addr} {h₀ : Heap} {m : Str → Option Value} {news : List (Addr × Obj)} {es : List DictEntry} {n : Nat} {name : Str} {v : Value} {g : Obj → List (Addr × Obj)} {l : List (Str × Value)}
theorem set_attr_K {Q : Unit → Shared → Prop} (F : Fr h₀ L s.heap m) (X₀ : K.In h₀) (N : News h₀ L s.heap news) (h1 : (x, instObj C dx) ∈ news) (h2 : (dx, dictOf es n) ∈ news)
    (hs : findIn K (.ref C) "__setattr__" = some (some (.builtin "object.__setattr__"))) (hp : plainOver K C = true) (ht : takerIn K C name = some none) (hh : hasDictIn K C = true)
    (U : UpdF dx (dictOf es n) news g) (hA : HasA es l) (hl : (l.lookup name).isSome = true) (hz : es.length ≤ 1000)
    (h : ∀ h' es', Fr h₀ L h' m → News h₀ L h' (g (dictOf es' n)) → HasA es' ((name, v) :: l) → es'.length ≤ 1000 → Q () { s with heap := h', toks := s.toks + 2 }) :
    wpAny (model prog w) A (setAttr (.ref x) name v) Q E s := by
  have hsm := hA.isIn hl
  obtain ⟨v0, e0⟩ := Option.isSome_iff_exists.mp hl
  have hg := hA name v0 e0
  have hlen := putL_len (hsh := PyData.keyHash w.params name) (key := .str name (s.toks + 1)) (v := v) hsm
  refine set_dict F X₀ N (InstAt.of_news N h1 h2) rfl hs hp ht hh (by rw [hg]; rfl) (by rw [putN_same hsm]) (n' := n) (es' := putL name (PyData.keyHash w.params name) (.str name (s.toks + 1)) v es) (updF_at U _) (by rw [hlen]; exact hz) fun h' F' N' => h h' _ F' N' (hA.put hl) (by rw [hlen]; exact hz)
theorem get_attr_K {expr : Bool} {Q : Value → Shared → Prop} {attr : Option Value} (F : Fr h₀ L s.heap m) (X₀ : K.In h₀) (N : News h₀ L s.heap news) (h1 : (x, instObj C dx) ∈ news) (h2 : (dx, dictOf es n) ∈ news)
    (hg : plainGet K C name = true) (hh : hasDictIn K C = true)
    (ha : findIn K (.ref C) name = some attr) (hn : noGet K attr = true) (hA : HasA es l) (hl : l.lookup name = some v) (hv : handedIn v = true) (h : Q v { s with toks := s.toks + 1 }) :
    wpAny (model prog w) A (getAttr (.ref x) name expr) Q E s :=
  get_own F X₀ (InstAt.of_news N h1 h2) hg hh ha hn (hA name v hl) hv h
end
theorem news_drop2 {h₀ h : Heap} {L : Addr} {a b c : Addr × Obj} {nw : List (Addr × Obj)} (N : News h₀ L h (a :: b :: c :: nw)) : News h₀ L h (a :: nw) := fun p hp => N p (by
  rcases List.mem_cons.mp hp with h | h
  · exact h ▸ .head _
  · exact .tail _ (.tail _ (.tail _ h)))

/-! Attr2 -/
theorem putL_new {name : Str} {hsh : Int} {key v : Value} : ∀ {es : List DictEntry}, es.any (·.key.isStr name) = false → putL name hsh key v es = es ++ [⟨hsh, key, v⟩]
  | [], _ => rfl
  | e :: r, h => by
    rw [List.any_cons, Bool.or_eq_false_iff] at h
    unfold putL
    rw [h.1, putL_new h.2]
    rfl
/-- all the attributes are known -/
structure FullA (es : List DictEntry) (l : List (Str × Value)) : Prop where
  has : HasA es l
  fresh : ∀ k, l.lookup k = none → es.any (·.key.isStr k) = false
  noref : es.any (·.refKey) = false
  len : es.length = l.length
theorem FullA.nil : FullA [] [] := ⟨fun _ _ h => by simp at h, fun _ _ => rfl, rfl, rfl⟩
theorem find_none {es : List DictEntry} {k : Str} (h : es.any (·.key.isStr k) = false) : es.find? (·.key.isStr k) = none := by
  rw [List.find?_eq_none]
  intro e he c
  have := List.any_eq_false.mp h e he
  exact this c
theorem FullA.put {es : List DictEntry} {l : List (Str × Value)} {name : Str} {hsh : Int} {t : Tok} {v : Value} (h : FullA es l) (hn : l.lookup name = none) : FullA (putL name hsh (.str name t) v es) ((name, v) :: l) := by
  have hf := h.fresh name hn
  rw [putL_new hf]
  have hk : (Value.str name t).isStr name = true := by simp [Value.isStr]
  refine ⟨fun k u hu => ?_, fun k hk' => ?_, ?_, by simp [h.len]⟩
  · rw [List.lookup_cons] at hu
    refine getL_find.mpr ?_
    by_cases c : k = name
    · subst c
      simp at hu
      subst hu
      refine ⟨⟨hsh, .str k t, v⟩, ?_, rfl⟩
      rw [List.find?_append, find_none hf]
      simp [hk]
    · have c' : (k == name) = false := by simpa using c
      rw [c'] at hu
      obtain ⟨e, he, hv⟩ := getL_find.mp (h.has k u hu)
      exact ⟨e, by rw [List.find?_append, he]; rfl, hv⟩
  · rw [List.lookup_cons] at hk'
    by_cases c : k = name
    · subst c; simp at hk'
    · have c' : (k == name) = false := by simpa using c
      rw [c'] at hk'
      rw [List.any_append, h.fresh k hk']
      have : (Value.str name t).isStr k = false := by
        cases d : (Value.str name t).isStr k with
        | false => rfl
        | true => exact absurd (isStr_inj d hk) c
      simp [this]
  · rw [List.any_append, h.noref]; rfl
theorem FullA.getNew {es : List DictEntry} {l : List (Str × Value)} {name : Str} (h : FullA es l) (hn : l.lookup name = none) : getL name es = some none := by
  unfold getL
  rw [find_none (h.fresh name hn)]
  simp only [h.noref]
  rfl
section
variable {prog : Program} {w : World} {A A₀ : Around} {E : Value → Shared → Prop} {s : Shared} {K : Frag} {x C dx L : Addr} {h₀ : Heap} {m : Str → Option Value} {news : List (Addr × Obj)} {es : List DictEntry} {n : Nat} {name : Str} {v : Value} {g : Obj → List (Addr × Obj)} {l : List (Str × Value)}
theorem set_new_K {Q : Unit → Shared → Prop} (F : Fr h₀ L s.heap m) (X₀ : K.In h₀) (N : News h₀ L s.heap news) (h1 : (x, instObj C dx) ∈ news) (h2 : (dx, dictOf es n) ∈ news)
    (hs : findIn K (.ref C) "__setattr__" = some (some (.builtin "object.__setattr__"))) (hp : plainOver K C = true) (ht : takerIn K C name = some none) (hh : hasDictIn K C = true)
    (U : UpdF dx (dictOf es n) news g) (hA : FullA es l) (hl : l.lookup name = none) (hz : l.length ≤ 100)
    (h : ∀ h' es' tk', Fr h₀ L h' m → News h₀ L h' (g (dictOf es' (n + 1))) → FullA es' ((name, v) :: l) → Q () { s with heap := h', toks := tk' }) :
    wpAny (model prog w) A (setAttr (.ref x) name v) Q E s := by
  have hf := hA.fresh name hl
  have hput := putL_new (hsh := PyData.keyHash w.params name) (key := .str name (s.toks + 1)) (v := v) hf
  refine set_dict F X₀ N (InstAt.of_news N h1 h2) rfl hs hp ht hh (by rw [hA.getNew hl]; rfl) (by unfold putN; rw [hf]; rfl) (n' := n + 1) (es' := putL name (PyData.keyHash w.params name) (.str name (s.toks + 1)) v es) (updF_at U _) (by rw [hput, List.length_append, hA.len]; simp; omega) fun h' F' N' => h h' _ _ F' N' (hA.put hl)
end

/-! AttrS -/
/-- the entry of one object ahead, the others in a list of their own -/
theorem news_split {h₀ h : Heap} {L d : Addr} {o : Obj} {nw : List (Addr × Obj)} (N : News h₀ L h nw) (hm : (d, o) ∈ nw) :
    ∃ T, News h₀ L h ((d, o) :: T) ∧ (∀ p ∈ T, p.1 ≠ d) ∧ (∀ p ∈ nw, p.1 ≠ d → p ∈ T) := by
  refine ⟨nw.filter (fun p => decide (p.1 ≠ d)), fun p hp => ?_, fun p hp => ?_, fun p hp hn => ?_⟩
  · rcases List.mem_cons.mp hp with e | hp
    · exact e ▸ N _ hm
    · exact N _ (List.mem_filter.mp hp).1
  · exact of_decide_eq_true (List.mem_filter.mp hp).2
  · exact List.mem_filter.mpr ⟨hp, decide_eq_true hn⟩
theorem allLt_mem {d a : Addr} {o : Obj} {l : List (Addr × Obj)} (h : AllLt d l) (m : (a, o) ∈ l) : @LT.lt Nat _ a d := by
  induction l with
  | nil => cases m
  | cons p l ih =>
    cases m with
    | head => exact h.1
    | tail _ m => exact ih h.2 m
section
variable {prog : Program} {w : World} {A A₀ : Around} {E : Value → Shared → Prop} {s : Shared} {K : Frag} {x C dx L : Addr} {h₀ : Heap} {m : Str → Option Value} {news : List (Addr × Obj)} {es : List DictEntry} {n : Nat} {name : Str} {v : Value} {l : List (Str × Value)}
theorem set_attr_S {Q : Unit → Shared → Prop} (F : Fr h₀ L s.heap m) (X₀ : K.In h₀) (N : News h₀ L s.heap news) (h1 : (x, instObj C dx) ∈ news) (h2 : (dx, dictOf es n) ∈ news) (hne : x ≠ dx)
    (hs : findIn K (.ref C) "__setattr__" = some (some (.builtin "object.__setattr__"))) (hp : plainOver K C = true) (ht : takerIn K C name = some none) (hh : hasDictIn K C = true)
    (hA : HasA es l) (hl : (l.lookup name).isSome = true) (hz : es.length ≤ 1000)
    (h : ∀ h' es' T', Fr h₀ L h' m → News h₀ L h' ((dx, dictOf es' n) :: T') → (∀ p ∈ T', p.1 ≠ dx) → (x, instObj C dx) ∈ T' → (∀ p ∈ news, p.1 ≠ dx → p ∈ T') → HasA es' ((name, v) :: l) → es'.length ≤ 1000 → Q () { s with heap := h', toks := s.toks + 2 }) :
    wpAny (model prog w) A (setAttr (.ref x) name v) Q E s := by
  obtain ⟨T, N1, hT, hsub⟩ := news_split N h2
  have hx := hsub _ h1 hne
  exact set_attr_K F X₀ N1 (.tail _ hx) (.head _) hs hp ht hh (.head hT) hA hl hz fun h' es' F' N' hA' hz' => h h' es' T F' N' hT hx hsub hA' hz'
theorem set_new_S {Q : Unit → Shared → Prop} (F : Fr h₀ L s.heap m) (X₀ : K.In h₀) (N : News h₀ L s.heap news) (h1 : (x, instObj C dx) ∈ news) (h2 : (dx, dictOf es n) ∈ news) (hne : x ≠ dx)
    (hs : findIn K (.ref C) "__setattr__" = some (some (.builtin "object.__setattr__"))) (hp : plainOver K C = true) (ht : takerIn K C name = some none) (hh : hasDictIn K C = true)
    (hA : FullA es l) (hl : l.lookup name = none) (hz : l.length ≤ 100)
    (h : ∀ h' es' tk' T', Fr h₀ L h' m → News h₀ L h' ((dx, dictOf es' (n + 1)) :: T') → (∀ p ∈ T', p.1 ≠ dx) → (x, instObj C dx) ∈ T' → (∀ p ∈ news, p.1 ≠ dx → p ∈ T') → FullA es' ((name, v) :: l) → Q () { s with heap := h', toks := tk' }) :
    wpAny (model prog w) A (setAttr (.ref x) name v) Q E s := by
  obtain ⟨T, N1, hT, hsub⟩ := news_split N h2
  have hx := hsub _ h1 hne
  exact set_new_K F X₀ N1 (.tail _ hx) (.head _) hs hp ht hh (.head hT) hA hl hz fun h' es' tk' F' N' hA' => h h' es' tk' T F' N' hT hx hsub hA'
end

/-! Goes -/
set_option hygiene false in
local macro_rules | `(tactic| walk_at "pyIter ref") => `(tactic| (k_here; (with_reducible show wpAny _ _ (pyIter (Value.ref _)) (fun it s₂ => TurnsAt _ _ _ _ _ _ _ _ _ it s₂) _ _); k_dflt (first
  | (refine' iter_tupTurns ?h ?F ?N ?m ?c ?d ?_; (case h => rfl); (case F => k_asm); (case N => k_asm); (case m => k_mem); (case c => rfl); (case d => rfl))
  | (refine' iter_listTurns ?h ?F ?N ?m ?c ?d ?_; (case h => rfl); (case F => k_asm); (case N => k_asm); (case m => k_mem); (case c => rfl); (case d => rfl))); intro iI lI; (try k_lt lI)))
theorem rows_6 : True := by
  k_with_none
  k_with "my enter" => ((refine wpAny_call ?_; k_dflt (refine' code_defG ?k1 ?k2 ?k3 ?k4 ?k5 ?kA ?kF ?kK ?k6 ?k7 ?k8 ?k9 ?kB ?_ ?c2 ?c3 ?c4 ?c5; (case kA => exact rfl); (case kF => exact rfl); (case kK => assumption); (case k1 => k_asm); (case k2 => k_asm); (case k3 => k_asm); (case k4 => k_asm); (case k5 => k_asm); (case k6 => k_is); (case k7 => k_is); (case k8 => ktr_room); (case k9 => exact BindsTo.of_eq rfl); (case c5 => decide); (case kB => exact locs rfl); (case c2 => exact rfl); (case c3 => exact rfl); (case c4 => exact rfl); k_whole; intro g' L' h' FG' F' N' B' X' T' kG'; (try dsimp only); (try k_lift B'); (try k_fold))))
  k_with "my enterC" => ((refine wpAny_call ?_; k_dflt (refine' code_defC ?k1 ?k2 ?k3 ?k4 ?k5 ?kA ?kF ?kK ?k6 ?k7 ?k8 ?k9 ?kB ?kD ?_ ?c2 ?c3 ?c4; (case kA => exact rfl); (case kF => exact rfl); (case kK => assumption); (case k1 => k_asm); (case k2 => k_asm); (case k3 => k_asm); (case k4 => k_asm); (case k5 => k_asm); (case k6 => k_is); (case k7 => k_is); (case k8 => ktr_room); (case k9 => exact BindsTo.of_eq rfl); (case kB => exact rfl); (case kD => decide +kernel); (case c2 => exact rfl); (case c3 => exact rfl); (case c4 => exact rfl); k_whole; intro g' L' h' tk' cells' FG' F' N' Y' B' X' T' l1; (try k_lt l1); (obtain ⟨oc, hE', d1⟩ := CellsAre.one Y'; subst hE'; clear Y'); (try simp only [List.cons_append, List.nil_append] at N'); (try dsimp only); (try k_lift B'); (try k_fold))))
  k_with "ite" => (first | with_reducible refine ite_tt ?_ | with_reducible refine ite_ff ?_)
  k_with "call ref" => ((k_here; k_dflt (refine' kind_K ?k1 ?k2 ?k3 ?k4 ?k5 ?k6 ?k7 ?k8 ?k9 ?ka ?kb ?kc ?kd ?ke ?_; (case k1 => k_asm); (case k2 => k_asm); (case k3 => k_asm); (case k4 => k_asm); (case k5 => k_asm); (case k6 => first | exact rfl | assumption); (case k7 => k_mem); (case k8 => k_asm); (case k9 => k_asm); (case ka => ktr_room); (case kb => ktr_units); (case kc => first | assumption | omega); (case kd => first | assumption | omega); (case ke => first | assumption | exact allStr_nil); k_whole; intro t' h' tk' F' N' cE')))
  k_with "call ref" => ((k_here; k_dflt (refine' isarr_K ?k1 ?k2 ?k3 ?k4 ?k5 ?k6 ?ka ?kb ?kc ?kd ?_; (case k1 => k_asm); (case k2 => k_asm); (case k3 => k_asm); (case k4 => k_asm); (case k5 => k_asm); (case k6 => first | exact rfl | assumption); (case ka => ktr_room); (case kb => ktr_units); (case kc => first | assumption | omega); (case kd => first | assumption | omega); k_whole; intro h' tk' F' N')))
  k_with "call ref" => ((k_here; k_dflt (refine' means_K ?k1 ?k2 ?k3 ?k4 ?k5 ?k6 ?k7 ?k71 ?k72 ?k73 ?k8 ?k9 ?ka ?kb ?kc ?kd ?ke ?_; (case k1 => k_asm); (case k2 => k_asm); (case k3 => k_asm); (case k4 => k_asm); (case k5 => k_asm); (case k6 => first | exact rfl | assumption); (case k71 => k_mem); (case k72 => k_mem); (case k73 => first | assumption | k_get); (case k7 => k_mem); (case k8 => k_asm); (case k9 => k_asm); (case ka => ktr_room); (case kb => ktr_units); (case kc => first | assumption | omega | exact (hkl _ (by assumption)).1); (case kd => first | assumption | omega | exact (hkl _ (by assumption)).2); (case ke => first | assumption | exact allStr_nil); k_whole; intro h' tk' F' N')))
  k_with "getAttr ref" => ((k_here; k_dflt (refine' get_own ?F ?X ?I ?g ?h ?a ?n ?l ?v ?_; (case F => k_asm); (case X => k_asm); (case I => k_inst); (case g => k_is); (case h => k_is); (case a => k_is); (case n => k_is); (case l => assumption); (case v => k_handed); k_whole)))
  k_with "exec Assign cons ListComp" => ((k_here; k_dflt (refine LCt.Assign_ListComp_T (F₀ := by k_asm) (by rfl) (by with_unfolding_all rfl) (by with_unfolding_all rfl) (by decide) (by rfl) (by decide) (by rfl) (by rfl) (by rfl) ?_)))
  k_with "eval ListComp" => ((k_here; k_dflt (refine LCt.ListComp_T (F₀ := by k_asm) (by with_unfolding_all rfl) (by decide) (by rfl) (by decide) (by rfl) ?_)))
  k_with "compareOp In str ref" => ((k_here; k_dflt (refine kda_in (knd := PySem.strKind _ _) (by k_asm) (by k_mem) (by k_asm) (by k_asm) (strKind_is _ _ _ _) ((valueAt _ _).isSome) (by rfl) ?_)))
  k_with "subscriptTail" => ((k_here; (with_reducible show wpAny _ _ (subscriptTail _ _ (Value.ref _) (Value.str _ _)) _ _ _); (obtain ⟨v9, hv9⟩ := Option.isSome_iff_exists.mp (by assumption : (valueAt _ _).isSome = true)); k_dflt (refine kda_item (knd := PySem.strKind _ _) (by k_asm) (by k_mem) (by k_asm) (strKind_is _ _ _ _) hv9 ?_)))
  k_with "call type:dict" => ((k_here; (with_reducible show wpAny _ _ (call (Value.type "dict") [Value.ref _]) _ _ _); k_dflt (refine' dict_pairs_K ?kh ?k1 ?k2 ?k3 ?k4 ?k5 ?k6 ?_; (case kh => exact rfl); (case k1 => k_asm); (case k2 => k_asm); (case k3 => exact modules_low (Top.nolimit (by k_asm))); (case k4 => k_mem); (case k5 => assumption); (case k6 => omega); k_whole; intro d' o' h' tk' F' N' l1 lo' hd')))
  k_with "call type:list" => ((k_here; (with_reducible show wpAny _ _ (call (Value.type "list") [Value.ref _]) _ _ _); k_dflt (refine' list_items_K ?kh ?k1 ?k2 ?k3 ?k4 ?k5 ?k6 ?_; (case kh => exact rfl); (case k1 => k_asm); (case k2 => k_asm); (case k3 => k_mem); (case k4 => k_mem); (case k5 => k_asm); (case k6 => omega); k_whole; intro lS its9 c9 extra9 h' tk' F' N' hP9)))
  k_with "call type:dict" => ((k_here; (with_reducible show wpAny _ _ (call (Value.type "dict") [Value.ref _]) _ _ _); k_dflt (refine' dict_pairs_drop ?kh ?k1 ?k2 ?k3 ?k4 ?k5 ?k6 ?_; (case kh => exact rfl); (case k1 => k_asm); (case k2 => k_asm); (case k3 => exact modules_low (Top.nolimit (by k_asm))); (case k4 => exact rfl); (case k5 => assumption); (case k6 => omega); k_whole; intro dK oK h' tk' F' N' lK loK hdK; (try simp only [AllLt, and_true] at lK))))
  k_with "call ref" => ((k_here; k_dflt (refine' take_F ?k1 ?k2 ?k3 ?k4 ?k5 ?k6 ?k7 ?k8 ?k9 ?ka ?kb ?kc ?kd ?ke ?kf ?kg ?kh ?_; (case k1 => k_asm); (case k2 => k_asm); (case k3 => k_asm); (case k4 => k_asm); (case k5 => k_asm); (case k6 => first | exact rfl | assumption); (case k7 => k_updF); (case k8 => k_mem); (case k9 => assumption); (case ka => omega); (case kb => omega); (case kc => decide); (case kd => decide); (case ke => omega); (case kf => ktr_room); (case kg => ktr_units); (case kh => assumption); k_whole; intro rr tr tp h' tk' hr0 hr1 F' N'; (try dsimp only at N'))))
  k_with "call ref" => ((k_here; k_dflt (refine' own_K ?k1 ?k2 ?k3 ?k4 ?k5 ?k6 ?k7 ?k8 ?k9 ?ka ?kb ?kc ?kd ?ke ?_; (case k1 => k_asm); (case k2 => k_asm); (case k3 => k_asm); (case k4 => k_asm); (case k5 => k_asm); (case k6 => first | exact rfl | assumption); (case k7 => k_mem); (case k8 => k_asm); (case k9 => k_asm); (case ka => ktr_room); (case kb => ktr_units); (case kc => first | assumption | omega | decide); (case kd => first | assumption | omega | decide); (case ke => first | assumption | exact allStr_nil); k_whole; intro qo to h' tk' F' N' l1; (try simp only [AllLt, and_true] at l1))))
  k_with "cj" => (with_reducible (first | assumption | exact And.right (by first | assumption | exact And.right (by first | assumption | exact And.right (by first | assumption | exact And.right (by first | assumption | exact And.right (by first | assumption | exact And.right (by first | assumption | exact And.right (by first | assumption | exact And.right (by first | assumption | exact And.right (by first | assumption | exact And.right (by first | assumption | exact And.right (by first | assumption | exact And.right (by first | assumption | exact And.right (by first | assumption | exact And.right (by first | assumption | exact And.right (by first | assumption | exact And.right (by first | assumption | exact And.right (by first | assumption | exact And.right (by first | assumption | exact And.right (by first | assumption | exact And.right (by first | assumption | exact And.right (by first | assumption | exact And.right (by first | assumption | exact And.right (by first | assumption | exact And.right (by first | assumption | exact And.right (by first | assumption | exact And.right (by assumption))))))))))))))))))))))))))))
  k_with "ne" => (first | exact Nat.ne_of_gt (And.left (by k_extra "cj")) | exact Nat.ne_of_lt (And.left (by k_extra "cj")) | exact Nat.ne_of_gt (by with_reducible assumption) | exact Nat.ne_of_lt (by with_reducible assumption) | exact Nat.ne_of_gt (by k_extra "cj") | exact Nat.ne_of_lt (by k_extra "cj") | (refine neN ?_; (try dsimp only); omega))
  k_with "all" => (first | exact List.forall_mem_nil _ | (refine' List.forall_mem_cons.mpr ⟨?a, ?b⟩; (case a => first | exact Nat.ne_of_lt (And.left (by k_extra "cj")) | k_ne); (case b => k_all)) | assumption | exact allLt_ne (by k_extra "cj") | exact gt_ne (by assumption) (by first | assumption | omega) | fail "k_all")
  k_with "call ref" => ((k_here; k_dflt (refine' own3_K ?k1 ?k2 ?k3 ?k4 ?k5 ?k6 ?k7 ?k8 ?k9 ?ka ?kb ?kc ?kd ?ke ?_ ?_ ?_; (case k1 => k_asm); (case k2 => k_asm); (case k3 => k_asm); (case k4 => k_asm); (case k5 => k_asm); (case k6 => first | exact rfl | assumption); (case k7 => k_mem); (case k8 => k_asm); (case k9 => k_asm); (case ka => ktr_room); (case kb => ktr_units); (case kc => first | assumption | omega | decide); (case kd => first | assumption | omega | decide); (case ke => first | assumption | exact K3.nil); k_whole; all_goals (intro qo to h' tk' eO9 F' N' l1; (try simp only [AllLt, and_true] at l1)))))
  k_with "eval Dict" => ((k_here; k_dflt (first
        | (refine' kdn_str ?q ?F ?N ?b ?a ?l ?e ?n ?_; (case q => rfl); (case F => k_asm); (case N => first | k_asm | exact News.nil); (case b => exact Top.nolimit (by k_asm)); (case a => rfl); (case l => rfl); (case e => exact List.cons_ne_nil _ _); (case n => exact Nat.le_of_ble_eq_true rfl))
        | (refine' kdn_int ?q ?F ?N ?b ?a ?l ?e ?n ?_; (case q => rfl); (case F => k_asm); (case N => first | k_asm | exact News.nil); (case b => exact Top.nolimit (by k_asm)); (case a => rfl); (case l => rfl); (case e => exact List.cons_ne_nil _ _); (case n => exact Nat.le_of_ble_eq_true rfl))); intro d' h' o' F' N' l1 lo' hd'; (try k_lt l1)))
  k_with "setItem ref str" => ((k_here; k_dflt (refine' kda_set (knd := PySem.strKind _ _) ?F ?N ?U ?d (strKind_is _ _ _ _) ?z ?_; (case F => k_asm); (case N => k_asm); (case U => k_updF); (case d => assumption); (case z => rw [sizeLine_eq]; omega)); intro h' o' F' N' hdS'; (try dsimp only at N')))
  k_with "my sub" => (((repeat (refine List.forall_mem_cons.mpr ⟨by k_mem, ?_⟩)); first | exact List.forall_mem_nil _ | (intro p hp; repeat (first | exact hp | refine List.Mem.tail _ ?_))))
  k_with "execs cons" => (first | (k_here; k_gentoks) | ((with_reducible refine wpAny_execs_cons ?_); try dsimp only))
  k_with "assignInOrder" => ((dsimp only; walk_at "assignInOrder"))
  k_with "enter" => (first
        | (refine' code_def ?k1 ?k2 ?k3 ?k4 ?k5 ?kA ?kF ?kK ?k6 ?k7 ?k8 ?k9 ?kB ?_ ?c2 ?c3 ?c4 ?c5; (case kA => exact rfl); (case kF => exact rfl); (case kK => first | exact rfl | assumption); (case k1 => k_asm); (case k2 => k_asm); (case k3 => k_asm); (case k4 => k_asm); (case k5 => k_asm); (case k6 => k_is); (case k7 => k_is); (case k8 => ktr_room); (case k9 => first | exact BindsTo.of_eq rfl | exact binds_K (by k_in) rfl (by k_is) rfl rfl rfl | fail "k_enter: no rule for these arguments"); (case c5 => decide); (case kB => exact locs rfl); (case c2 => exact rfl); (case c3 => exact rfl); (case c4 => exact rfl); k_whole; intro g' L' h' FG' F' N' B' X' T'; (try dsimp only); (try k_lift B'); (try k_fold)))
  k_with "call type:list" => ((k_here; (with_reducible show wpAny _ _ (call (Value.type "list") [Value.ref _]) _ _ _); k_dflt (refine' list_keys_K ?kh ?k1 ?k2 ?k3 ?k4 ?k5 ?k6 ?_; (case kh => exact rfl); (case k1 => k_asm); (case k2 => k_asm); (case k3 => k_mem); (case k4 => assumption); (case k5 => k_asm); (case k6 => omega); k_whole; intro lN2 cN2 vsN h' tk' hvN F' N' lNN; (try simp only [AllLt, and_true] at lNN))))
  k_with "binaryOp Add ref ref" => ((k_here; (with_reducible show wpAny _ _ (binaryOp _ (Value.ref _) (Value.ref _)) _ _ _); k_dflt (refine' add_lists_K ?F ?N ?a ?b ?z ?_; (case F => k_asm); (case N => k_asm); (case a => k_mem); (case b => k_mem); (case z => walk_at "my len")); intro D' h' F' N' l1; (try simp only [AllLt, and_true] at l1)))
  k_with "my len" => (((have hLn9 := strsAre_len hvN); (simp only [List.length_append, List.length_map, List.length_cons, List.length_nil] at *); omega))
  k_with "exec Assign cons ListComp" => ((k_here; (with_reducible show wpAny _ _ (exec (.Assign _ (.ListComp _ [⟨_, .Attribute _ _ _, _, _⟩] _ _) _) _) _ _ _); k_dflt (refine Assign_ListComp_TD (knd := PySem.strKind _ _) (by k_asm) (by rfl) (by with_unfolding_all rfl) (by with_unfolding_all rfl) (by decide) (by rfl) (by decide) (by rfl) (by rfl) (by rfl) ?_)))
  k_with "compareOp In str ref" => ((k_here; k_dflt (refine in_words_K (by k_asm) (by k_mem) hWd ?_)))
  k_with "getItem ref str" => ((k_here; k_dflt (refine kdt_getItem (knd := PySem.strKind _ _) (by k_asm) (by k_mem) (by k_asm) (strKind_is _ _ _ _) (by assumption) ?_)))
  k_with "my go" => (repeat' ((fail_if_success with_reducible refine strRest_at ?_); (fail_if_success with_reducible refine itemsRest_at ?_); first | (k_unfold; (try dsimp only)) | walk1 | (dsimp only; walk1) | fail "no step"))
  k_with "getAttr ref" => ((k_here; k_dflt (refine' get_attr_K ?k1 ?k2 ?k3 ?h1 ?h2 ?k4 ?k5 ?k6 ?k7 ?hA ?hl ?k9 ?_; (case k1 => k_asm); (case k2 => k_asm); (case k3 => k_asm); (case h1 => k_mem); (case h2 => k_mem); (case k4 => k_is); (case k5 => k_is); (case k6 => k_is); (case k7 => k_is); (case hA => assumption); (case hl => with_unfolding_all rfl); (case k9 => k_handed); k_whole)))
  k_with "setAttr ref" => ((k_here; k_dflt (refine' set_attr_K ?k1 ?k2 ?k3 ?h1 ?h2 ?k4 ?k5 ?k6 ?k7 ?U ?hA ?hl ?z ?_; (case k1 => k_asm); (case k2 => k_asm); (case k3 => k_asm); (case h1 => k_mem); (case h2 => k_mem); (case k4 => k_is); (case k5 => k_is); (case k6 => k_is); (case k7 => k_is); (case U => k_updF); (case hA => assumption); (case hl => with_unfolding_all rfl); (case z => omega); k_whole; intro h' es' F' N' hA' hz'; (try dsimp only at N'))))
  trivial
set_option hygiene false in


section
variable {w : World} {mean : ExcName → Option Value} {mg mb : Str → Option Value} {dp un : Nat} {gd : Option (List Code)} {cn : Str} {cs : Scope} {a : Addr} {ccd : Value} {cl : List (Str × Addr)} {outer : List Env} {A₀ : Around} {base h₀ : Heap} {L : Addr} {m : Str → Option Value} {s : Shared} {Q E : Value → Shared → Prop} {news news' : List (Addr × Obj)}
theorem goes_K {xA dx : Addr} {es : List DictEntry} {n : Nat} {kA fA daA coA : Addr} {ec : Str} {t1 t2 t3 t4 t5 : Tok} {v1 v2 v3 v4 : Int} {b1 : Bool}
    (B : Below A₀ base outer h₀) (F : Fr h₀ L s.heap m) (X : (hd.heap_39 w.params).In h₀) (N : News h₀ L s.heap news)
    (T : Top hd.view_39 (looseW hd.view_39 [Str.ofString "BasicError"]) mean mg mb h₀) (hk : cs.kind = .function)
    (hm1 : (xA, instObj 114 dx) ∈ news) (hm2 : (dx, dictOf es n) ∈ news)
    (hA : HasA es [(Str.ofString "kinds", .ref kA), (Str.ofString "fns", .ref fA), (Str.ofString "data", .ref daA), (Str.ofString "spot", .int v1 t1), (Str.ofString "depth", .int v2 t2), (Str.ofString "handler", .int v3 t3), (Str.ofString "is_handling", .bool b1), (Str.ofString "error_line", .int v4 t4), (Str.ofString "error_code", .str ec t5), (Str.ofString "common", .ref coA)])
    (hd : dp + 1 < recursionLimit) (_hu : un + 8 < cLine)
    (ret : ∀ (q : Addr) h' tk', Fr h₀ L h' m → News h₀ L h' ((q, W.listOf #[.ref kA, .ref fA, .ref daA, .int v1 t1, .int v2 t2, .int v3 t3, .bool b1, .int v4 t4, .str ec t5, .ref coA] 0) :: news) → AllLt q news → Q (.ref q) { s with heap := h', toks := tk' }) :
    wpAny (model PySem.Challenge.rw_pf0005_01.row.prog w) (ktrTop dp un gd cn cs L a ccd cl outer) (call (.ref 174) [.ref xA]) Q E s := by
  walk_at "my enter"
  walk_at "my go"
  exact ret _ _ _ (by assumption) (news_drop2 (by assumption)) (And.right (And.right (by assumption : @LT.lt Nat _ _ _ ∧ @LT.lt Nat _ _ _ ∧ AllLt _ news)))
end

/-! Stay -/
set_option hygiene false in


section
variable {w : World} {mean : ExcName → Option Value} {mg mb : Str → Option Value} {dp un : Nat} {gd : Option (List Code)} {cn : Str} {cs : Scope} {a : Addr} {ccd : Value} {cl : List (Str × Addr)} {outer : List Env} {A₀ : Around} {base h₀ : Heap} {L : Addr} {m : Str → Option Value} {s : Shared} {Q E : Value → Shared → Prop} {news news' : List (Addr × Obj)}
theorem stays_K {xA dx : Addr} {es : List DictEntry} {n : Nat} {fiA opA feA ouA inA trA : Addr} {rw : Str} {t1 t2 t3 t4 : Tok} {v1 v2 v3 : Int} {b1 : Bool}
    (B : Below A₀ base outer h₀) (F : Fr h₀ L s.heap m) (X : (hd.heap_39 w.params).In h₀) (N : News h₀ L s.heap news)
    (T : Top hd.view_39 (looseW hd.view_39 [Str.ofString "BasicError"]) mean mg mb h₀) (hk : cs.kind = .function)
    (hm1 : (xA, instObj 114 dx) ∈ news) (hm2 : (dx, dictOf es n) ∈ news)
    (hA : HasA es [(Str.ofString "files", .ref fiA), (Str.ofString "open", .ref opA), (Str.ofString "fields", .ref feA), (Str.ofString "out", .ref ouA), (Str.ofString "row", .str rw t1), (Str.ofString "inputs", .ref inA), (Str.ofString "base", .int v1 t2), (Str.ofString "seed", .int v2 t3), (Str.ofString "steps", .int v3 t4), (Str.ofString "is_traced", .bool b1), (Str.ofString "traces", .ref trA)])
    (hd : dp + 1 < recursionLimit) (_hu : un + 8 < cLine)
    (ret : ∀ (q : Addr) h' tk', Fr h₀ L h' m → News h₀ L h' ((q, W.listOf #[.ref fiA, .ref opA, .ref feA, .ref ouA, .str rw t1, .ref inA, .int v1 t2, .int v2 t3, .int v3 t4, .bool b1, .ref trA] 0) :: news) → AllLt q news → Q (.ref q) { s with heap := h', toks := tk' }) :
    wpAny (model PySem.Challenge.rw_pf0005_01.row.prog w) (ktrTop dp un gd cn cs L a ccd cl outer) (call (.ref 167) [.ref xA]) Q E s := by
  walk_at "my enter"
  walk_at "my go"
  exact ret _ _ _ (by assumption) (news_drop2 (by assumption)) (And.right (And.right (by assumption : @LT.lt Nat _ _ _ ∧ @LT.lt Nat _ _ _ ∧ AllLt _ news)))
end

/-! Clear -/
set_option hygiene false in


section
variable {w : World} {mean : ExcName → Option Value} {mg mb : Str → Option Value} {dp un : Nat} {gd : Option (List Code)} {cn : Str} {cs : Scope} {a : Addr} {ccd : Value} {cl : List (Str × Addr)} {outer : List Env} {A₀ : Around} {base h₀ : Heap} {L : Addr} {m : Str → Option Value} {s : Shared} {Q E : Value → Shared → Prop} {news news' : List (Addr × Obj)}
theorem clear_K {xA dx : Addr} {es : List DictEntry} {n : Nat} {nA aA kA fA ouA inA fiA opA feA daA trA coA : Addr} {rw ec : Str} {t1 t2 t3 t4 t5 t6 t7 t8 t9 : Tok} {v1 v2 v3 v4 v5 v6 v7 : Int} {b1 b2 : Bool}
    (B : Below A₀ base outer h₀) (F : Fr h₀ L s.heap m) (X : (hd.heap_39 w.params).In h₀) (N : News h₀ L s.heap ((xA, instObj 114 dx) :: (dx, dictOf es n) :: news))
    (T : Top hd.view_39 (looseW hd.view_39 [Str.ofString "BasicError"]) mean mg mb h₀) (hk : cs.kind = .function)
    (ho : @LT.lt Nat _ dx xA) (ho2 : ∀ p ∈ news, p.1 ≠ dx) (hz : es.length ≤ 1000)
    (hA : HasA es [(Str.ofString "names", .ref nA), (Str.ofString "arrays", .ref aA), (Str.ofString "kinds", .ref kA), (Str.ofString "fns", .ref fA), (Str.ofString "out", .ref ouA), (Str.ofString "row", .str rw t1), (Str.ofString "inputs", .ref inA), (Str.ofString "files", .ref fiA), (Str.ofString "open", .ref opA), (Str.ofString "fields", .ref feA), (Str.ofString "data", .ref daA), (Str.ofString "spot", .int v1 t2), (Str.ofString "base", .int v2 t3), (Str.ofString "seed", .int v3 t4), (Str.ofString "steps", .int v4 t5), (Str.ofString "depth", .int v5 t6), (Str.ofString "handler", .int v6 t7), (Str.ofString "is_handling", .bool b1), (Str.ofString "error_line", .int v7 t8), (Str.ofString "error_code", .str ec t9), (Str.ofString "is_traced", .bool b2), (Str.ofString "traces", .ref trA), (Str.ofString "common", .ref coA)])
    (hd : dp + 1 < recursionLimit) (_hu : un + 8 < cLine)
    (ret : ∀ (q1 q2 q3 q4 q5 : Addr) (o1 o2 : Obj) (x1 x2 x3 x4 x5 x6 : Tok) (es' : List DictEntry) h' tk', Fr h₀ L h' m → News h₀ L h' ((q1, o1) :: (q2, o2) :: (q5, W.listOf #[] 0) :: (xA, instObj 114 dx) :: (dx, dictOf es' n) :: news) → o1.IsDictOf (PySem.strKind PySem.Challenge.rw_pf0005_01.row.prog w) [] → o2.IsDictOf (PySem.strKind PySem.Challenge.rw_pf0005_01.row.prog w) [] → (q1 == sysModules) = false → (q2 == sysModules) = false →
      HasA es' [(Str.ofString "names", .ref q1), (Str.ofString "arrays", .ref q2), (Str.ofString "kinds", .ref q3), (Str.ofString "fns", .ref q4), (Str.ofString "out", .ref ouA), (Str.ofString "row", .str rw t1), (Str.ofString "inputs", .ref inA), (Str.ofString "files", .ref fiA), (Str.ofString "open", .ref opA), (Str.ofString "fields", .ref feA), (Str.ofString "data", .ref daA), (Str.ofString "spot", .int 0 x1), (Str.ofString "base", .int 0 x2), (Str.ofString "seed", .int 1 x3), (Str.ofString "steps", .int v4 t5), (Str.ofString "depth", .int v5 t6), (Str.ofString "handler", .int 0 x4), (Str.ofString "is_handling", .bool false), (Str.ofString "error_line", .int 0 x5), (Str.ofString "error_code", .str Str.empty x6), (Str.ofString "is_traced", .bool b2), (Str.ofString "traces", .ref trA), (Str.ofString "common", .ref q5)] → es'.length ≤ 1000 → (@LT.lt Nat _ xA q1 ∧ AllLt q1 news) → (@LT.lt Nat _ q1 q2 ∧ AllLt q2 news) → (@LT.lt Nat _ q2 q5 ∧ AllLt q5 news) → Q .none { s with heap := h', toks := tk' }) :
    wpAny (model PySem.Challenge.rw_pf0005_01.row.prog w) (ktrTop dp un gd cn cs L a ccd cl outer) (call (.ref 139) [.ref xA]) Q E s := by
  walk_at "my enter"
  walk_at "my go"
  rename_i hz1 tkz1 dz1 hz2 oz1 loz1 hsz1 fsz1 hiz1 fiz1 l1z1 dz2 hz3 oz2 loz2 hsz2 fsz2 hiz2 fiz2 l1z2 dz3 hz4 oz3 loz3 hsz3 fsz3 hiz3 fiz3 l1z3 dz4 hz5 oz4 loz4 hsz4 fsz4 hiz4 fiz4 l1z4 Dz1 hz6 l1z5 hz7 hz8 es_z1 hA_z1 hz_z1 hz9 es_z2 hA_z2 hz_z2 hz10 es_z3 hA_z3 hz_z3 hz11 es_z4 hA_z4 hz_z4 tkz2 Dz2 hz12 l1z6 hz13 hz14 es_z5 hA_z5 hz_z5 hz15 es_z6 hA_z6 hz_z6 hz16 es_z7 hA_z7 hz_z7 tkz3 Dz3 hz17 l1z7 hz18 hz19 es_z8 hA_z8 hz_z8 hz20 es_z9 hA_z9 hz_z9 hz21 es_z10 hA_z10 hz_z10 hz22 es_z11 hA_z11 hz_z11 tkz4 lz1 hz23 FFz1 NNz1 l1z8 kFz1 kNz1 Tcz1 kXz1
  refine' ret _ _ _ _ _ _ _ _ _ _ _ _ _ _ _ _ (by assumption) (news_sub (by assumption) ?sub) ?i1 ?i2 ?s1 ?s2 ?hA (by assumption) ?r1 ?r2 ?r3
  case hA => exact hA'.sub (by repeat (first | exact List.forall_mem_nil _ | refine List.forall_mem_cons.mpr ⟨by with_unfolding_all rfl, ?_⟩))
  case sub => walk_at "my sub"
  case i1 => assumption
  case i2 => assumption
  case s1 => assumption
  case s2 => assumption
  case r1 => exact ⟨by omega, l1z1.2.2⟩
  case r2 => exact ⟨by omega, l1z2.2.2.2⟩
  case r3 => exact ⟨by omega, And.right (And.right (And.right (And.right (And.right (And.right (And.right (And.right (And.right l1z8))))))))⟩
end

/-! GetN -/
theorem rows_7 : True := by
  k_with_none
  k_with "my enter" => ((refine wpAny_call ?_; k_dflt (refine' code_defG ?k1 ?k2 ?k3 ?k4 ?k5 ?kA ?kF ?kK ?k6 ?k7 ?k8 ?k9 ?kB ?_ ?c2 ?c3 ?c4 ?c5; (case kA => exact rfl); (case kF => exact rfl); (case kK => assumption); (case k1 => k_asm); (case k2 => k_asm); (case k3 => k_asm); (case k4 => k_asm); (case k5 => k_asm); (case k6 => k_is); (case k7 => k_is); (case k8 => ktr_room); (case k9 => exact BindsTo.of_eq rfl); (case c5 => decide); (case kB => exact locs rfl); (case c2 => exact rfl); (case c3 => exact rfl); (case c4 => exact rfl); k_whole; intro g' L' h' FG' F' N' B' X' T' kG'; (try dsimp only); (try k_lift B'); (try k_fold))))
  k_with "my enterC" => ((refine wpAny_call ?_; k_dflt (refine' code_defC ?k1 ?k2 ?k3 ?k4 ?k5 ?kA ?kF ?kK ?k6 ?k7 ?k8 ?k9 ?kB ?kD ?_ ?c2 ?c3 ?c4; (case kA => exact rfl); (case kF => exact rfl); (case kK => assumption); (case k1 => k_asm); (case k2 => k_asm); (case k3 => k_asm); (case k4 => k_asm); (case k5 => k_asm); (case k6 => k_is); (case k7 => k_is); (case k8 => ktr_room); (case k9 => exact BindsTo.of_eq rfl); (case kB => exact rfl); (case kD => decide +kernel); (case c2 => exact rfl); (case c3 => exact rfl); (case c4 => exact rfl); k_whole; intro g' L' h' tk' cells' FG' F' N' Y' B' X' T' l1; (try k_lt l1); (obtain ⟨oc, hE', d1⟩ := CellsAre.one Y'; subst hE'; clear Y'); (try simp only [List.cons_append, List.nil_append] at N'); (try dsimp only); (try k_lift B'); (try k_fold))))
  k_with "ite" => (first | with_reducible refine ite_tt ?_ | with_reducible refine ite_ff ?_)
  k_with "call ref" => ((k_here; k_dflt (refine' kind_K ?k1 ?k2 ?k3 ?k4 ?k5 ?k6 ?k7 ?k8 ?k9 ?ka ?kb ?kc ?kd ?ke ?_; (case k1 => k_asm); (case k2 => k_asm); (case k3 => k_asm); (case k4 => k_asm); (case k5 => k_asm); (case k6 => first | exact rfl | assumption); (case k7 => k_mem); (case k8 => k_asm); (case k9 => k_asm); (case ka => ktr_room); (case kb => ktr_units); (case kc => first | assumption | omega); (case kd => first | assumption | omega); (case ke => first | assumption | exact allStr_nil); k_whole; intro t' h' tk' F' N' cE')))
  k_with "call ref" => ((k_here; k_dflt (refine' isarr_K ?k1 ?k2 ?k3 ?k4 ?k5 ?k6 ?ka ?kb ?kc ?kd ?_; (case k1 => k_asm); (case k2 => k_asm); (case k3 => k_asm); (case k4 => k_asm); (case k5 => k_asm); (case k6 => first | exact rfl | assumption); (case ka => ktr_room); (case kb => ktr_units); (case kc => first | assumption | omega); (case kd => first | assumption | omega); k_whole; intro h' tk' F' N')))
  k_with "call ref" => ((k_here; k_dflt (refine' means_K ?k1 ?k2 ?k3 ?k4 ?k5 ?k6 ?k7 ?k71 ?k72 ?k73 ?k8 ?k9 ?ka ?kb ?kc ?kd ?ke ?_; (case k1 => k_asm); (case k2 => k_asm); (case k3 => k_asm); (case k4 => k_asm); (case k5 => k_asm); (case k6 => first | exact rfl | assumption); (case k71 => k_mem); (case k72 => k_mem); (case k73 => first | assumption | k_get); (case k7 => k_mem); (case k8 => k_asm); (case k9 => k_asm); (case ka => ktr_room); (case kb => ktr_units); (case kc => first | assumption | omega | exact (hkl _ (by assumption)).1); (case kd => first | assumption | omega | exact (hkl _ (by assumption)).2); (case ke => first | assumption | exact allStr_nil); k_whole; intro h' tk' F' N')))
  k_with "getAttr ref" => ((k_here; k_dflt (refine' get_own ?F ?X ?I ?g ?h ?a ?n ?l ?v ?_; (case F => k_asm); (case X => k_asm); (case I => k_inst); (case g => k_is); (case h => k_is); (case a => k_is); (case n => k_is); (case l => assumption); (case v => k_handed); k_whole)))
  k_with "exec Assign cons ListComp" => ((k_here; k_dflt (refine LCt.Assign_ListComp_T (F₀ := by k_asm) (by rfl) (by with_unfolding_all rfl) (by with_unfolding_all rfl) (by decide) (by rfl) (by decide) (by rfl) (by rfl) (by rfl) ?_)))
  k_with "eval ListComp" => ((k_here; k_dflt (refine LCt.ListComp_T (F₀ := by k_asm) (by with_unfolding_all rfl) (by decide) (by rfl) (by decide) (by rfl) ?_)))
  k_with "compareOp In str ref" => ((k_here; k_dflt (refine kda_in (knd := PySem.strKind _ _) (by k_asm) (by k_mem) (by k_asm) (by k_asm) (strKind_is _ _ _ _) ((valueAt _ _).isSome) (by rfl) ?_)))
  k_with "subscriptTail" => ((k_here; (with_reducible show wpAny _ _ (subscriptTail _ _ (Value.ref _) (Value.str _ _)) _ _ _); (obtain ⟨v9, hv9⟩ := Option.isSome_iff_exists.mp (by assumption : (valueAt _ _).isSome = true)); k_dflt (refine kda_item (knd := PySem.strKind _ _) (by k_asm) (by k_mem) (by k_asm) (strKind_is _ _ _ _) hv9 ?_)))
  k_with "call type:dict" => ((k_here; (with_reducible show wpAny _ _ (call (Value.type "dict") [Value.ref _]) _ _ _); k_dflt (refine' dict_pairs_K ?kh ?k1 ?k2 ?k3 ?k4 ?k5 ?k6 ?_; (case kh => exact rfl); (case k1 => k_asm); (case k2 => k_asm); (case k3 => exact modules_low (Top.nolimit (by k_asm))); (case k4 => k_mem); (case k5 => assumption); (case k6 => omega); k_whole; intro d' o' h' tk' F' N' l1 lo' hd')))
  k_with "call type:list" => ((k_here; (with_reducible show wpAny _ _ (call (Value.type "list") [Value.ref _]) _ _ _); k_dflt (refine' list_items_K ?kh ?k1 ?k2 ?k3 ?k4 ?k5 ?k6 ?_; (case kh => exact rfl); (case k1 => k_asm); (case k2 => k_asm); (case k3 => k_mem); (case k4 => k_mem); (case k5 => k_asm); (case k6 => omega); k_whole; intro lS its9 c9 extra9 h' tk' F' N' hP9)))
  k_with "call type:dict" => ((k_here; (with_reducible show wpAny _ _ (call (Value.type "dict") [Value.ref _]) _ _ _); k_dflt (refine' dict_pairs_drop ?kh ?k1 ?k2 ?k3 ?k4 ?k5 ?k6 ?_; (case kh => exact rfl); (case k1 => k_asm); (case k2 => k_asm); (case k3 => exact modules_low (Top.nolimit (by k_asm))); (case k4 => exact rfl); (case k5 => assumption); (case k6 => omega); k_whole; intro dK oK h' tk' F' N' lK loK hdK; (try simp only [AllLt, and_true] at lK))))
  k_with "call ref" => ((k_here; k_dflt (refine' take_F ?k1 ?k2 ?k3 ?k4 ?k5 ?k6 ?k7 ?k8 ?k9 ?ka ?kb ?kc ?kd ?ke ?kf ?kg ?kh ?_; (case k1 => k_asm); (case k2 => k_asm); (case k3 => k_asm); (case k4 => k_asm); (case k5 => k_asm); (case k6 => first | exact rfl | assumption); (case k7 => k_updF); (case k8 => k_mem); (case k9 => assumption); (case ka => omega); (case kb => omega); (case kc => decide); (case kd => decide); (case ke => omega); (case kf => ktr_room); (case kg => ktr_units); (case kh => assumption); k_whole; intro rr tr tp h' tk' hr0 hr1 F' N'; (try dsimp only at N'))))
  k_with "call ref" => ((k_here; k_dflt (refine' own_K ?k1 ?k2 ?k3 ?k4 ?k5 ?k6 ?k7 ?k8 ?k9 ?ka ?kb ?kc ?kd ?ke ?_; (case k1 => k_asm); (case k2 => k_asm); (case k3 => k_asm); (case k4 => k_asm); (case k5 => k_asm); (case k6 => first | exact rfl | assumption); (case k7 => k_mem); (case k8 => k_asm); (case k9 => k_asm); (case ka => ktr_room); (case kb => ktr_units); (case kc => first | assumption | omega | decide); (case kd => first | assumption | omega | decide); (case ke => first | assumption | exact allStr_nil); k_whole; intro qo to h' tk' F' N' l1; (try simp only [AllLt, and_true] at l1))))
  k_with "cj" => (with_reducible (first | assumption | exact And.right (by first | assumption | exact And.right (by first | assumption | exact And.right (by first | assumption | exact And.right (by first | assumption | exact And.right (by first | assumption | exact And.right (by first | assumption | exact And.right (by first | assumption | exact And.right (by first | assumption | exact And.right (by first | assumption | exact And.right (by first | assumption | exact And.right (by first | assumption | exact And.right (by first | assumption | exact And.right (by first | assumption | exact And.right (by first | assumption | exact And.right (by first | assumption | exact And.right (by first | assumption | exact And.right (by first | assumption | exact And.right (by first | assumption | exact And.right (by first | assumption | exact And.right (by first | assumption | exact And.right (by first | assumption | exact And.right (by first | assumption | exact And.right (by first | assumption | exact And.right (by first | assumption | exact And.right (by first | assumption | exact And.right (by assumption))))))))))))))))))))))))))))
  k_with "ne" => (first | exact Nat.ne_of_gt (And.left (by k_extra "cj")) | exact Nat.ne_of_lt (And.left (by k_extra "cj")) | exact Nat.ne_of_gt (by with_reducible assumption) | exact Nat.ne_of_lt (by with_reducible assumption) | exact Nat.ne_of_gt (by k_extra "cj") | exact Nat.ne_of_lt (by k_extra "cj") | (refine neN ?_; (try dsimp only); omega))
  k_with "all" => (first | exact List.forall_mem_nil _ | (refine' List.forall_mem_cons.mpr ⟨?a, ?b⟩; (case a => first | exact Nat.ne_of_lt (And.left (by k_extra "cj")) | k_ne); (case b => k_all)) | assumption | exact allLt_ne (by k_extra "cj") | exact gt_ne (by assumption) (by first | assumption | omega) | fail "k_all")
  k_with "call ref" => ((k_here; k_dflt (refine' own3_K ?k1 ?k2 ?k3 ?k4 ?k5 ?k6 ?k7 ?k8 ?k9 ?ka ?kb ?kc ?kd ?ke ?_ ?_ ?_; (case k1 => k_asm); (case k2 => k_asm); (case k3 => k_asm); (case k4 => k_asm); (case k5 => k_asm); (case k6 => first | exact rfl | assumption); (case k7 => k_mem); (case k8 => k_asm); (case k9 => k_asm); (case ka => ktr_room); (case kb => ktr_units); (case kc => first | assumption | omega | decide); (case kd => first | assumption | omega | decide); (case ke => first | assumption | exact K3.nil); k_whole; all_goals (intro qo to h' tk' eO9 F' N' l1; (try simp only [AllLt, and_true] at l1)))))
  k_with "eval Dict" => ((k_here; k_dflt (first
        | (refine' kdn_str ?q ?F ?N ?b ?a ?l ?e ?n ?_; (case q => rfl); (case F => k_asm); (case N => first | k_asm | exact News.nil); (case b => exact Top.nolimit (by k_asm)); (case a => rfl); (case l => rfl); (case e => exact List.cons_ne_nil _ _); (case n => exact Nat.le_of_ble_eq_true rfl))
        | (refine' kdn_int ?q ?F ?N ?b ?a ?l ?e ?n ?_; (case q => rfl); (case F => k_asm); (case N => first | k_asm | exact News.nil); (case b => exact Top.nolimit (by k_asm)); (case a => rfl); (case l => rfl); (case e => exact List.cons_ne_nil _ _); (case n => exact Nat.le_of_ble_eq_true rfl))); intro d' h' o' F' N' l1 lo' hd'; (try k_lt l1)))
  k_with "setItem ref str" => ((k_here; k_dflt (refine' kda_set (knd := PySem.strKind _ _) ?F ?N ?U ?d (strKind_is _ _ _ _) ?z ?_; (case F => k_asm); (case N => k_asm); (case U => k_updF); (case d => assumption); (case z => rw [sizeLine_eq]; omega)); intro h' o' F' N' hdS'; (try dsimp only at N')))
  k_with "my sub" => (((repeat (refine List.forall_mem_cons.mpr ⟨by k_mem, ?_⟩)); first | exact List.forall_mem_nil _ | (intro p hp; repeat (first | exact hp | refine List.Mem.tail _ ?_))))
  k_with "execs cons" => (first | (k_here; k_gentoks) | ((with_reducible refine wpAny_execs_cons ?_); try dsimp only))
  k_with "assignInOrder" => ((dsimp only; walk_at "assignInOrder"))
  k_with "enter" => (first
        | (refine' code_def ?k1 ?k2 ?k3 ?k4 ?k5 ?kA ?kF ?kK ?k6 ?k7 ?k8 ?k9 ?kB ?_ ?c2 ?c3 ?c4 ?c5; (case kA => exact rfl); (case kF => exact rfl); (case kK => first | exact rfl | assumption); (case k1 => k_asm); (case k2 => k_asm); (case k3 => k_asm); (case k4 => k_asm); (case k5 => k_asm); (case k6 => k_is); (case k7 => k_is); (case k8 => ktr_room); (case k9 => first | exact BindsTo.of_eq rfl | exact binds_K (by k_in) rfl (by k_is) rfl rfl rfl | fail "k_enter: no rule for these arguments"); (case c5 => decide); (case kB => exact locs rfl); (case c2 => exact rfl); (case c3 => exact rfl); (case c4 => exact rfl); k_whole; intro g' L' h' FG' F' N' B' X' T'; (try dsimp only); (try k_lift B'); (try k_fold)))
  k_with "call type:list" => ((k_here; (with_reducible show wpAny _ _ (call (Value.type "list") [Value.ref _]) _ _ _); k_dflt (refine' list_keys_K ?kh ?k1 ?k2 ?k3 ?k4 ?k5 ?k6 ?_; (case kh => exact rfl); (case k1 => k_asm); (case k2 => k_asm); (case k3 => k_mem); (case k4 => assumption); (case k5 => k_asm); (case k6 => omega); k_whole; intro lN2 cN2 vsN h' tk' hvN F' N' lNN; (try simp only [AllLt, and_true] at lNN))))
  k_with "binaryOp Add ref ref" => ((k_here; (with_reducible show wpAny _ _ (binaryOp _ (Value.ref _) (Value.ref _)) _ _ _); k_dflt (refine' add_lists_K ?F ?N ?a ?b ?z ?_; (case F => k_asm); (case N => k_asm); (case a => k_mem); (case b => k_mem); (case z => walk_at "my len")); intro D' h' F' N' l1; (try simp only [AllLt, and_true] at l1)))
  k_with "my len" => (((have hLn9 := strsAre_len hvN); (simp only [List.length_append, List.length_map, List.length_cons, List.length_nil] at *); omega))
  k_with "exec Assign cons ListComp" => ((k_here; (with_reducible show wpAny _ _ (exec (.Assign _ (.ListComp _ [⟨_, .Attribute _ _ _, _, _⟩] _ _) _) _) _ _ _); k_dflt (refine Assign_ListComp_TD (knd := PySem.strKind _ _) (by k_asm) (by rfl) (by with_unfolding_all rfl) (by with_unfolding_all rfl) (by decide) (by rfl) (by decide) (by rfl) (by rfl) (by rfl) ?_)))
  k_with "compareOp In str ref" => ((k_here; k_dflt (refine in_words_K (by k_asm) (by k_mem) hWd ?_)))
  k_with "getItem ref str" => ((k_here; k_dflt (refine kdt_getItem (knd := PySem.strKind _ _) (by k_asm) (by k_mem) (by k_asm) (strKind_is _ _ _ _) (by assumption) ?_)))
  k_with "my go" => (repeat' ((fail_if_success with_reducible refine strRest_at ?_); (fail_if_success with_reducible refine itemsRest_at ?_); first | (k_unfold; (try dsimp only)) | walk1 | (dsimp only; walk1) | fail "no step"))
  k_with "getAttr ref" => ((k_here; k_dflt (refine' get_attr_K ?k1 ?k2 ?k3 ?h1 ?h2 ?k4 ?k5 ?k6 ?k7 ?hA ?hl ?k9 ?_; (case k1 => k_asm); (case k2 => k_asm); (case k3 => k_asm); (case h1 => k_mem); (case h2 => k_mem); (case k4 => k_is); (case k5 => k_is); (case k6 => k_is); (case k7 => k_is); (case hA => assumption); (case hl => with_unfolding_all rfl); (case k9 => k_handed); k_whole)))
  k_with "setAttr ref" => ((k_here; k_dflt (refine' set_attr_K ?k1 ?k2 ?k3 ?h1 ?h2 ?k4 ?k5 ?k6 ?k7 ?U ?hA ?hl ?z ?_; (case k1 => k_asm); (case k2 => k_asm); (case k3 => k_asm); (case h1 => k_mem); (case h2 => k_mem); (case k4 => k_is); (case k5 => k_is); (case k6 => k_is); (case k7 => k_is); (case U => k_updF); (case hA => assumption); (case hl => with_unfolding_all rfl); (case z => omega); k_whole; intro h' es' F' N' hA' hz'; (try dsimp only at N'))))
  k_with "call ref" => ((k_here; k_dflt (refine' kind3_K ?k1 ?k2 ?k3 ?k4 ?k5 ?k6 ?k7 ?k8 ?k9 ?ka ?kb ?kc ?kd ?_ ?_ ?_; (case k1 => k_asm); (case k2 => k_asm); (case k3 => k_asm); (case k4 => k_asm); (case k5 => k_asm); (case k6 => first | exact rfl | assumption); (case k7 => k_mem); (case k8 => k_asm); (case k9 => k_asm); (case ka => ktr_room); (case kb => ktr_units); (case kc => first | assumption | omega | decide); (case kd => first | assumption | omega | decide); all_goals (k_whole; intro to h' tk' hqk F' N'))))
  trivial
set_option hygiene false in


theorem kindS_nil (x : Str) : kindS [] x = Str.ofString "text" ∨ kindS [] x = Str.ofString "whole" ∨ kindS [] x = Str.ofString "decimal" := by
  unfold kindS
  split
  · exact .inl rfl
  split
  · exact .inr (.inl rfl)
  split
  · exact .inr (.inr rfl)
  · exact .inr (.inr rfl)
section
variable {w : World} {mean : ExcName → Option Value} {mg mb : Str → Option Value} {dp un : Nat} {gd : Option (List Code)} {cn : Str} {cs : Scope} {a : Addr} {ccd : Value} {cl : List (Str × Addr)} {outer : List Env} {A₀ : Around} {base h₀ : Heap} {L : Addr} {m : Str → Option Value} {s : Shared} {Q E : Value → Shared → Prop} {news news' : List (Addr × Obj)}
theorem kind3_K {k : Addr} {x : Str} {t : Tok} {o : Obj}
    (B : Below A₀ base outer h₀) (F : Fr h₀ L s.heap m) (X : (hd.heap_39 w.params).In h₀) (N : News h₀ L s.heap news)
    (T : Top hd.view_39 (looseW hd.view_39 [Str.ofString "BasicError"]) mean mg mb h₀) (hk : cs.kind = .function) (hm : (k, o) ∈ news)
    (hkd : o.IsDictOf (PySem.strKind PySem.Challenge.rw_pf0005_01.row.prog w) []) (lo : (k == sysModules) = false)
    (hd : dp + 1 < recursionLimit) (hu : un + 8 < cLine) (hx : 0 < x.length) (hx2 : x.length ≤ 100)
    (ret1 : ∀ (t : Tok) h' tk', kindS [] x = Str.ofString "text" → Fr h₀ L h' m → News h₀ L h' news → Q (.str (Str.ofString "text") t) { s with heap := h', toks := tk' })
    (ret2 : ∀ (t : Tok) h' tk', kindS [] x = Str.ofString "whole" → Fr h₀ L h' m → News h₀ L h' news → Q (.str (Str.ofString "whole") t) { s with heap := h', toks := tk' })
    (ret3 : ∀ (t : Tok) h' tk', kindS [] x = Str.ofString "decimal" → Fr h₀ L h' m → News h₀ L h' news → Q (.str (Str.ofString "decimal") t) { s with heap := h', toks := tk' }) :
    wpAny (model PySem.Challenge.rw_pf0005_01.row.prog w) (ktrTop dp un gd cn cs L a ccd cl outer) (call (.ref 44) [.str x t, .ref k]) Q E s := by
  refine kind_K B F X N T hk hm hkd lo hd hu hx hx2 allStr_nil fun t h' tk' F' N' _ => ?_
  rcases kindS_nil x with e | e | e
  · rw [e]; exact ret1 t h' tk' e F' N'
  · rw [e]; exact ret2 t h' tk' e F' N'
  · rw [e]; exact ret3 t h' tk' e F' N'
theorem get_name_K {xA dx nA kA : Addr} {es : List DictEntry} {n : Nat} {x : Str} {t : Tok} {oN oK : Obj} {kvs : List (Str × Value)}
    (B : Below A₀ base outer h₀) (F : Fr h₀ L s.heap m) (X : (hd.heap_39 w.params).In h₀) (N : News h₀ L s.heap news)
    (T : Top hd.view_39 (looseW hd.view_39 [Str.ofString "BasicError"]) mean mg mb h₀) (hk : cs.kind = .function)
    (hm1 : (xA, instObj 114 dx) ∈ news) (hm2 : (dx, dictOf es n) ∈ news) (hA : HasA es [(Str.ofString "names", .ref nA), (Str.ofString "kinds", .ref kA)])
    (hmN : (nA, oN) ∈ news) (hnd : oN.IsDictOf (PySem.strKind PySem.Challenge.rw_pf0005_01.row.prog w) kvs) (loN : (nA == sysModules) = false)
    (hmK : (kA, oK) ∈ news) (hkd : oK.IsDictOf (PySem.strKind PySem.Challenge.rw_pf0005_01.row.prog w) []) (loK : (kA == sysModules) = false)
    (hx : 0 < x.length) (hx2 : x.length ≤ 100)
    (hd : dp + 3 < recursionLimit) (_hu : un + 24 < cLine)
    (ret0 : ∀ v h' tk', valueAt kvs x = some v → Fr h₀ L h' m → News h₀ L h' news → Q v { s with heap := h', toks := tk' })
    (ret1 : ∀ (t : Tok) h' tk', valueAt kvs x = none → kindS [] x = Str.ofString "text" → Fr h₀ L h' m → News h₀ L h' news → Q (.str (Str.ofString "") t) { s with heap := h', toks := tk' })
    (ret2 : ∀ (t : Tok) h' tk', valueAt kvs x = none → kindS [] x = Str.ofString "whole" → Fr h₀ L h' m → News h₀ L h' news → Q (.int 0 t) { s with heap := h', toks := tk' })
    (ret3 : ∀ (q : Addr) (t t' : Tok) h' tk', valueAt kvs x = none → kindS [] x = Str.ofString "decimal" → Fr h₀ L h' m → News h₀ L h' ((q, tupOf [.int 0 t, .int 0 t']) :: news) → AllLt q news → Q (.ref q) { s with heap := h', toks := tk' }) :
    wpAny (model PySem.Challenge.rw_pf0005_01.row.prog w) (ktrTop dp un gd cn cs L a ccd cl outer) (call (.ref 132) [.ref xA, .str x t]) Q E s := by
  cases hvx : valueAt kvs x with
  | some v =>
    have hvi : (valueAt kvs x).isSome = true := by rw [hvx]; rfl
    walk_at "my enter"
    walk_at "my go"
    obtain rfl : v9 = v := by rw [hvx] at hv9; exact (Option.some.inj hv9).symm
    exact ret0 _ _ _ hvx (by assumption) (by assumption)
  | none =>
    have hvi : (valueAt kvs x).isSome = false := by rw [hvx]; rfl
    walk_at "my enter"
    walk_at "my go"
    · exact ret1 _ _ _ hvx (by assumption) (by assumption) (by assumption)
    · exact ret2 _ _ _ hvx (by assumption) (by assumption) (by assumption)
    · exact ret3 _ _ _ _ _ hvx (by assumption) (by assumption) (by assumption) (allLt_of (by assumption))
end

/-! HandOn -/
theorem rows_8 : True := by
  k_with_none
  k_with "my enter" => ((refine wpAny_call ?_; k_dflt (refine' code_defG ?k1 ?k2 ?k3 ?k4 ?k5 ?kA ?kF ?kK ?k6 ?k7 ?k8 ?k9 ?kB ?_ ?c2 ?c3 ?c4 ?c5; (case kA => exact rfl); (case kF => exact rfl); (case kK => assumption); (case k1 => k_asm); (case k2 => k_asm); (case k3 => k_asm); (case k4 => k_asm); (case k5 => k_asm); (case k6 => k_is); (case k7 => k_is); (case k8 => ktr_room); (case k9 => exact BindsTo.of_eq rfl); (case c5 => decide); (case kB => exact locs rfl); (case c2 => exact rfl); (case c3 => exact rfl); (case c4 => exact rfl); k_whole; intro g' L' h' FG' F' N' B' X' T' kG'; (try dsimp only); (try k_lift B'); (try k_fold))))
  k_with "my enterC" => ((refine wpAny_call ?_; k_dflt (refine' code_defC ?k1 ?k2 ?k3 ?k4 ?k5 ?kA ?kF ?kK ?k6 ?k7 ?k8 ?k9 ?kB ?kD ?_ ?c2 ?c3 ?c4; (case kA => exact rfl); (case kF => exact rfl); (case kK => assumption); (case k1 => k_asm); (case k2 => k_asm); (case k3 => k_asm); (case k4 => k_asm); (case k5 => k_asm); (case k6 => k_is); (case k7 => k_is); (case k8 => ktr_room); (case k9 => exact BindsTo.of_eq rfl); (case kB => exact rfl); (case kD => decide +kernel); (case c2 => exact rfl); (case c3 => exact rfl); (case c4 => exact rfl); k_whole; intro g' L' h' tk' cells' FG' F' N' Y' B' X' T' l1; (try k_lt l1); (obtain ⟨oc, hE', d1⟩ := CellsAre.one Y'; subst hE'; clear Y'); (try simp only [List.cons_append, List.nil_append] at N'); (try dsimp only); (try k_lift B'); (try k_fold))))
  k_with "ite" => (first | with_reducible refine ite_tt ?_ | with_reducible refine ite_ff ?_)
  k_with "call ref" => ((k_here; k_dflt (refine' kind_K ?k1 ?k2 ?k3 ?k4 ?k5 ?k6 ?k7 ?k8 ?k9 ?ka ?kb ?kc ?kd ?ke ?_; (case k1 => k_asm); (case k2 => k_asm); (case k3 => k_asm); (case k4 => k_asm); (case k5 => k_asm); (case k6 => first | exact rfl | assumption); (case k7 => k_mem); (case k8 => k_asm); (case k9 => k_asm); (case ka => ktr_room); (case kb => ktr_units); (case kc => first | assumption | omega); (case kd => first | assumption | omega); (case ke => first | assumption | exact allStr_nil); k_whole; intro t' h' tk' F' N' cE')))
  k_with "call ref" => ((k_here; k_dflt (refine' isarr_K ?k1 ?k2 ?k3 ?k4 ?k5 ?k6 ?ka ?kb ?kc ?kd ?_; (case k1 => k_asm); (case k2 => k_asm); (case k3 => k_asm); (case k4 => k_asm); (case k5 => k_asm); (case k6 => first | exact rfl | assumption); (case ka => ktr_room); (case kb => ktr_units); (case kc => first | assumption | omega); (case kd => first | assumption | omega); k_whole; intro h' tk' F' N')))
  k_with "call ref" => ((k_here; k_dflt (refine' means_K ?k1 ?k2 ?k3 ?k4 ?k5 ?k6 ?k7 ?k71 ?k72 ?k73 ?k8 ?k9 ?ka ?kb ?kc ?kd ?ke ?_; (case k1 => k_asm); (case k2 => k_asm); (case k3 => k_asm); (case k4 => k_asm); (case k5 => k_asm); (case k6 => first | exact rfl | assumption); (case k71 => k_mem); (case k72 => k_mem); (case k73 => first | assumption | k_get); (case k7 => k_mem); (case k8 => k_asm); (case k9 => k_asm); (case ka => ktr_room); (case kb => ktr_units); (case kc => first | assumption | omega | exact (hkl _ (by assumption)).1); (case kd => first | assumption | omega | exact (hkl _ (by assumption)).2); (case ke => first | assumption | exact allStr_nil); k_whole; intro h' tk' F' N')))
  k_with "getAttr ref" => ((k_here; k_dflt (refine' get_own ?F ?X ?I ?g ?h ?a ?n ?l ?v ?_; (case F => k_asm); (case X => k_asm); (case I => k_inst); (case g => k_is); (case h => k_is); (case a => k_is); (case n => k_is); (case l => assumption); (case v => k_handed); k_whole)))
  k_with "exec Assign cons ListComp" => ((k_here; k_dflt (refine LCt.Assign_ListComp_T (F₀ := by k_asm) (by rfl) (by with_unfolding_all rfl) (by with_unfolding_all rfl) (by decide) (by rfl) (by decide) (by rfl) (by rfl) (by rfl) ?_)))
  k_with "eval ListComp" => ((k_here; k_dflt (refine LCt.ListComp_T (F₀ := by k_asm) (by with_unfolding_all rfl) (by decide) (by rfl) (by decide) (by rfl) ?_)))
  k_with "compareOp In str ref" => ((k_here; k_dflt (refine kda_in (knd := PySem.strKind _ _) (by k_asm) (by k_mem) (by k_asm) (by k_asm) (strKind_is _ _ _ _) ((valueAt _ _).isSome) (by rfl) ?_)))
  k_with "subscriptTail" => ((k_here; (with_reducible show wpAny _ _ (subscriptTail _ _ (Value.ref _) (Value.str _ _)) _ _ _); (obtain ⟨v9, hv9⟩ := Option.isSome_iff_exists.mp (by assumption : (valueAt _ _).isSome = true)); k_dflt (refine kda_item (knd := PySem.strKind _ _) (by k_asm) (by k_mem) (by k_asm) (strKind_is _ _ _ _) hv9 ?_)))
  k_with "call type:dict" => ((k_here; (with_reducible show wpAny _ _ (call (Value.type "dict") [Value.ref _]) _ _ _); k_dflt (refine' dict_pairs_K ?kh ?k1 ?k2 ?k3 ?k4 ?k5 ?k6 ?_; (case kh => exact rfl); (case k1 => k_asm); (case k2 => k_asm); (case k3 => exact modules_low (Top.nolimit (by k_asm))); (case k4 => k_mem); (case k5 => assumption); (case k6 => omega); k_whole; intro d' o' h' tk' F' N' l1 lo' hd')))
  k_with "call type:list" => ((k_here; (with_reducible show wpAny _ _ (call (Value.type "list") [Value.ref _]) _ _ _); k_dflt (refine' list_items_K ?kh ?k1 ?k2 ?k3 ?k4 ?k5 ?k6 ?_; (case kh => exact rfl); (case k1 => k_asm); (case k2 => k_asm); (case k3 => k_mem); (case k4 => k_mem); (case k5 => k_asm); (case k6 => omega); k_whole; intro lS its9 c9 extra9 h' tk' F' N' hP9)))
  k_with "call type:dict" => ((k_here; (with_reducible show wpAny _ _ (call (Value.type "dict") [Value.ref _]) _ _ _); k_dflt (refine' dict_pairs_drop ?kh ?k1 ?k2 ?k3 ?k4 ?k5 ?k6 ?_; (case kh => exact rfl); (case k1 => k_asm); (case k2 => k_asm); (case k3 => exact modules_low (Top.nolimit (by k_asm))); (case k4 => exact rfl); (case k5 => assumption); (case k6 => omega); k_whole; intro dK oK h' tk' F' N' lK loK hdK; (try simp only [AllLt, and_true] at lK))))
  k_with "call ref" => ((k_here; k_dflt (refine' take_F ?k1 ?k2 ?k3 ?k4 ?k5 ?k6 ?k7 ?k8 ?k9 ?ka ?kb ?kc ?kd ?ke ?kf ?kg ?kh ?_; (case k1 => k_asm); (case k2 => k_asm); (case k3 => k_asm); (case k4 => k_asm); (case k5 => k_asm); (case k6 => first | exact rfl | assumption); (case k7 => k_updF); (case k8 => k_mem); (case k9 => assumption); (case ka => omega); (case kb => omega); (case kc => decide); (case kd => decide); (case ke => omega); (case kf => ktr_room); (case kg => ktr_units); (case kh => assumption); k_whole; intro rr tr tp h' tk' hr0 hr1 F' N'; (try dsimp only at N'))))
  k_with "call ref" => ((k_here; k_dflt (refine' own_K ?k1 ?k2 ?k3 ?k4 ?k5 ?k6 ?k7 ?k8 ?k9 ?ka ?kb ?kc ?kd ?ke ?_; (case k1 => k_asm); (case k2 => k_asm); (case k3 => k_asm); (case k4 => k_asm); (case k5 => k_asm); (case k6 => first | exact rfl | assumption); (case k7 => k_mem); (case k8 => k_asm); (case k9 => k_asm); (case ka => ktr_room); (case kb => ktr_units); (case kc => first | assumption | omega | decide); (case kd => first | assumption | omega | decide); (case ke => first | assumption | exact allStr_nil); k_whole; intro qo to h' tk' F' N' l1; (try simp only [AllLt, and_true] at l1))))
  k_with "cj" => (with_reducible (first | assumption | exact And.right (by first | assumption | exact And.right (by first | assumption | exact And.right (by first | assumption | exact And.right (by first | assumption | exact And.right (by first | assumption | exact And.right (by first | assumption | exact And.right (by first | assumption | exact And.right (by first | assumption | exact And.right (by first | assumption | exact And.right (by first | assumption | exact And.right (by first | assumption | exact And.right (by first | assumption | exact And.right (by first | assumption | exact And.right (by first | assumption | exact And.right (by first | assumption | exact And.right (by first | assumption | exact And.right (by first | assumption | exact And.right (by first | assumption | exact And.right (by first | assumption | exact And.right (by first | assumption | exact And.right (by first | assumption | exact And.right (by first | assumption | exact And.right (by first | assumption | exact And.right (by first | assumption | exact And.right (by first | assumption | exact And.right (by assumption))))))))))))))))))))))))))))
  k_with "ne" => (first | exact Nat.ne_of_gt (And.left (by k_extra "cj")) | exact Nat.ne_of_lt (And.left (by k_extra "cj")) | exact Nat.ne_of_gt (by with_reducible assumption) | exact Nat.ne_of_lt (by with_reducible assumption) | exact Nat.ne_of_gt (by k_extra "cj") | exact Nat.ne_of_lt (by k_extra "cj") | (refine neN ?_; (try dsimp only); omega))
  k_with "all" => (first | exact List.forall_mem_nil _ | (refine' List.forall_mem_cons.mpr ⟨?a, ?b⟩; (case a => first | exact Nat.ne_of_lt (And.left (by k_extra "cj")) | k_ne); (case b => k_all)) | assumption | exact allLt_ne (by k_extra "cj") | exact gt_ne (by assumption) (by first | assumption | omega) | fail "k_all")
  k_with "call ref" => ((k_here; k_dflt (refine' own3_K ?k1 ?k2 ?k3 ?k4 ?k5 ?k6 ?k7 ?k8 ?k9 ?ka ?kb ?kc ?kd ?ke ?_ ?_ ?_; (case k1 => k_asm); (case k2 => k_asm); (case k3 => k_asm); (case k4 => k_asm); (case k5 => k_asm); (case k6 => first | exact rfl | assumption); (case k7 => k_mem); (case k8 => k_asm); (case k9 => k_asm); (case ka => ktr_room); (case kb => ktr_units); (case kc => first | assumption | omega | decide); (case kd => first | assumption | omega | decide); (case ke => first | assumption | exact K3.nil); k_whole; all_goals (intro qo to h' tk' eO9 F' N' l1; (try simp only [AllLt, and_true] at l1)))))
  k_with "eval Dict" => ((k_here; k_dflt (first
        | (refine' kdn_str ?q ?F ?N ?b ?a ?l ?e ?n ?_; (case q => rfl); (case F => k_asm); (case N => first | k_asm | exact News.nil); (case b => exact Top.nolimit (by k_asm)); (case a => rfl); (case l => rfl); (case e => exact List.cons_ne_nil _ _); (case n => exact Nat.le_of_ble_eq_true rfl))
        | (refine' kdn_int ?q ?F ?N ?b ?a ?l ?e ?n ?_; (case q => rfl); (case F => k_asm); (case N => first | k_asm | exact News.nil); (case b => exact Top.nolimit (by k_asm)); (case a => rfl); (case l => rfl); (case e => exact List.cons_ne_nil _ _); (case n => exact Nat.le_of_ble_eq_true rfl))); intro d' h' o' F' N' l1 lo' hd'; (try k_lt l1)))
  k_with "setItem ref str" => ((k_here; k_dflt (refine' kda_set (knd := PySem.strKind _ _) ?F ?N ?U ?d (strKind_is _ _ _ _) ?z ?_; (case F => k_asm); (case N => k_asm); (case U => k_updF); (case d => assumption); (case z => rw [sizeLine_eq]; omega)); intro h' o' F' N' hdS'; (try dsimp only at N')))
  k_with "my sub" => (((repeat (refine List.forall_mem_cons.mpr ⟨by k_mem, ?_⟩)); first | exact List.forall_mem_nil _ | (intro p hp; repeat (first | exact hp | refine List.Mem.tail _ ?_))))
  k_with "execs cons" => (first | (k_here; k_gentoks) | ((with_reducible refine wpAny_execs_cons ?_); try dsimp only))
  k_with "assignInOrder" => ((dsimp only; walk_at "assignInOrder"))
  k_with "enter" => (first
        | (refine' code_def ?k1 ?k2 ?k3 ?k4 ?k5 ?kA ?kF ?kK ?k6 ?k7 ?k8 ?k9 ?kB ?_ ?c2 ?c3 ?c4 ?c5; (case kA => exact rfl); (case kF => exact rfl); (case kK => first | exact rfl | assumption); (case k1 => k_asm); (case k2 => k_asm); (case k3 => k_asm); (case k4 => k_asm); (case k5 => k_asm); (case k6 => k_is); (case k7 => k_is); (case k8 => ktr_room); (case k9 => first | exact BindsTo.of_eq rfl | exact binds_K (by k_in) rfl (by k_is) rfl rfl rfl | fail "k_enter: no rule for these arguments"); (case c5 => decide); (case kB => exact locs rfl); (case c2 => exact rfl); (case c3 => exact rfl); (case c4 => exact rfl); k_whole; intro g' L' h' FG' F' N' B' X' T'; (try dsimp only); (try k_lift B'); (try k_fold)))
  k_with "call type:list" => ((k_here; (with_reducible show wpAny _ _ (call (Value.type "list") [Value.ref _]) _ _ _); k_dflt (refine' list_keys_K ?kh ?k1 ?k2 ?k3 ?k4 ?k5 ?k6 ?_; (case kh => exact rfl); (case k1 => k_asm); (case k2 => k_asm); (case k3 => k_mem); (case k4 => assumption); (case k5 => k_asm); (case k6 => omega); k_whole; intro lN2 cN2 vsN h' tk' hvN F' N' lNN; (try simp only [AllLt, and_true] at lNN))))
  k_with "binaryOp Add ref ref" => ((k_here; (with_reducible show wpAny _ _ (binaryOp _ (Value.ref _) (Value.ref _)) _ _ _); k_dflt (refine' add_lists_K ?F ?N ?a ?b ?z ?_; (case F => k_asm); (case N => k_asm); (case a => k_mem); (case b => k_mem); (case z => walk_at "my len")); intro D' h' F' N' l1; (try simp only [AllLt, and_true] at l1)))
  k_with "my len" => (((have hLn9 := strsAre_len hvN); (simp only [List.length_append, List.length_map, List.length_cons, List.length_nil] at *); omega))
  k_with "exec Assign cons ListComp" => ((k_here; (with_reducible show wpAny _ _ (exec (.Assign _ (.ListComp _ [⟨_, .Attribute _ _ _, _, _⟩] _ _) _) _) _ _ _); k_dflt (refine Assign_ListComp_TD (knd := PySem.strKind _ _) (by k_asm) (by rfl) (by with_unfolding_all rfl) (by with_unfolding_all rfl) (by decide) (by rfl) (by decide) (by rfl) (by rfl) (by rfl) ?_)))
  k_with "compareOp In str ref" => ((k_here; k_dflt (refine in_words_K (by k_asm) (by k_mem) hWd ?_)))
  k_with "getItem ref str" => ((k_here; k_dflt (refine kdt_getItem (knd := PySem.strKind _ _) (by k_asm) (by k_mem) (by k_asm) (strKind_is _ _ _ _) (by assumption) ?_)))
  k_with "my go" => (repeat' ((fail_if_success with_reducible refine strRest_at ?_); (fail_if_success with_reducible refine itemsRest_at ?_); first | (k_unfold; (try dsimp only)) | walk1 | (dsimp only; walk1) | fail "no step"))
  k_with "getAttr ref" => ((k_here; k_dflt (refine' get_attr_K ?k1 ?k2 ?k3 ?h1 ?h2 ?k4 ?k5 ?k6 ?k7 ?hA ?hl ?k9 ?_; (case k1 => k_asm); (case k2 => k_asm); (case k3 => k_asm); (case h1 => k_mem); (case h2 => k_mem); (case k4 => k_is); (case k5 => k_is); (case k6 => k_is); (case k7 => k_is); (case hA => assumption); (case hl => with_unfolding_all rfl); (case k9 => k_handed); k_whole)))
  k_with "setAttr ref" => ((k_here; k_dflt (refine' set_attr_K ?k1 ?k2 ?k3 ?h1 ?h2 ?k4 ?k5 ?k6 ?k7 ?U ?hA ?hl ?z ?_; (case k1 => k_asm); (case k2 => k_asm); (case k3 => k_asm); (case h1 => k_mem); (case h2 => k_mem); (case k4 => k_is); (case k5 => k_is); (case k6 => k_is); (case k7 => k_is); (case U => k_updF); (case hA => assumption); (case hl => with_unfolding_all rfl); (case z => omega); k_whole; intro h' es' F' N' hA' hz'; (try dsimp only at N'))))
  k_with "call ref" => ((k_here; k_dflt (refine' cnames_K ?k1 ?k2 ?k3 ?k4 ?k5 ?k6 ?k7 ?k8 ?g1 ?g2 ?m1 ?d1 ?lo1 ?hv ?m2 ?d2 ?lo2 ?m3 ?hW ?hwl ?hwn ?kd ?ke ?_; (case k1 => k_asm); (case k2 => k_asm); (case k3 => k_asm); (case k4 => k_asm); (case k5 => k_asm); (case k6 => first | exact rfl | assumption); (case k7 => k_mem); (case k8 => k_mem); (case g1 => exact (by assumption : HasA _ _) _ _ (by with_unfolding_all rfl)); (case g2 => exact (by assumption : HasA _ _) _ _ (by with_unfolding_all rfl)); (case m1 => k_mem); (case d1 => exact hkd); (case lo1 => assumption); (case hv => assumption); (case m2 => k_mem); (case d2 => assumption); (case lo2 => assumption); (case m3 => k_mem); (case hW => assumption); (case hwl => assumption); (case hwn => omega); (case kd => ktr_room); (case ke => ktr_units); k_whole; intro dC oC h' tk' F' N' l1 loC hdC; (try simp only [AllLt, and_true] at l1))))
  k_with "call ref" => ((k_here; k_dflt (refine' carrays_K ?k1 ?k2 ?k3 ?k4 ?k5 ?k6 ?k7 ?k8 ?g1 ?g2 ?m1 ?d1 ?lo1 ?hv ?m2 ?d2 ?lo2 ?hkl ?m3 ?hW ?hwl ?hwn ?kd ?ke ?_; (case k1 => k_asm); (case k2 => k_asm); (case k3 => k_asm); (case k4 => k_asm); (case k5 => k_asm); (case k6 => first | exact rfl | assumption); (case k7 => k_mem); (case k8 => k_mem); (case g1 => exact (by assumption : HasA _ _) _ _ (by with_unfolding_all rfl)); (case g2 => exact (by assumption : HasA _ _) _ _ (by with_unfolding_all rfl)); (case m1 => k_mem); (case d1 => exact hkd); (case lo1 => assumption); (case hv => assumption); (case m2 => k_mem); (case d2 => assumption); (case lo2 => assumption); (case hkl => assumption); (case m3 => k_mem); (case hW => assumption); (case hwl => assumption); (case hwn => omega); (case kd => ktr_room); (case ke => ktr_units); k_whole; intro dC oC h' tk' F' N' l1 loC hdC; (try simp only [AllLt, and_true] at l1))))
  trivial
set_option hygiene false in


section
variable {w : World} {mean : ExcName → Option Value} {mg mb : Str → Option Value} {dp un : Nat} {gd : Option (List Code)} {cn : Str} {cs : Scope} {a : Addr} {ccd : Value} {cl : List (Str × Addr)} {outer : List Env} {A₀ : Around} {base h₀ : Heap} {L : Addr} {m : Str → Option Value} {s : Shared} {Q E : Value → Shared → Prop} {news news' : List (Addr × Obj)}
theorem hand_on_K {xA dx wA : Addr} {es : List DictEntry} {n ew : Nat} {oK oN oA : Obj} {kvsK kvsN kvsA : List (Str × Value)} {wv : List Value} {ws : List Str} {nA aA kA fA ouA inA fiA opA feA daA trA coA : Addr} {rw ec : Str} {t1 t2 t3 t4 t5 t6 t7 t8 t9 : Tok} {v1 v2 v3 v4 v5 v6 v7 : Int} {b1 b2 : Bool}
    (B : Below A₀ base outer h₀) (F : Fr h₀ L s.heap m) (X : (hd.heap_39 w.params).In h₀) (N : News h₀ L s.heap ((xA, instObj 114 dx) :: (dx, dictOf es n) :: news))
    (T : Top hd.view_39 (looseW hd.view_39 [Str.ofString "BasicError"]) mean mg mb h₀) (hk : cs.kind = .function)
    (ho : @LT.lt Nat _ dx xA) (ho2 : ∀ p ∈ news, p.1 ≠ dx) (hz : es.length ≤ 1000)
    (hA : HasA es [(Str.ofString "names", .ref nA), (Str.ofString "arrays", .ref aA), (Str.ofString "kinds", .ref kA), (Str.ofString "fns", .ref fA), (Str.ofString "out", .ref ouA), (Str.ofString "row", .str rw t1), (Str.ofString "inputs", .ref inA), (Str.ofString "files", .ref fiA), (Str.ofString "open", .ref opA), (Str.ofString "fields", .ref feA), (Str.ofString "data", .ref daA), (Str.ofString "spot", .int v1 t2), (Str.ofString "base", .int v2 t3), (Str.ofString "seed", .int v3 t4), (Str.ofString "steps", .int v4 t5), (Str.ofString "depth", .int v5 t6), (Str.ofString "handler", .int v6 t7), (Str.ofString "is_handling", .bool b1), (Str.ofString "error_line", .int v7 t8), (Str.ofString "error_code", .str ec t9), (Str.ofString "is_traced", .bool b2), (Str.ofString "traces", .ref trA), (Str.ofString "common", .ref coA)])
    (hmK : (kA, oK) ∈ news) (hkd : oK.IsDictOf (PySem.strKind PySem.Challenge.rw_pf0005_01.row.prog w) kvsK) (loK : (kA == sysModules) = false) (hv : AllStr kvsK)
    (hmN : (nA, oN) ∈ news) (hnd : oN.IsDictOf (PySem.strKind PySem.Challenge.rw_pf0005_01.row.prog w) kvsN) (loN : (nA == sysModules) = false)
    (hmA : (aA, oA) ∈ news) (had : oA.IsDictOf (PySem.strKind PySem.Challenge.rw_pf0005_01.row.prog w) kvsA) (loA : (aA == sysModules) = false) (hkl : ∀ k, (valueAt kvsA k).isSome = true → 0 < k.length ∧ k.length ≤ 100)
    (hmW : (wA, ({ cls := .type "list", data := .seq wv.toArray ew } : Obj)) ∈ news) (hW : StrsAre wv ws) (hwl : ∀ x ∈ ws, 0 < x.length ∧ x.length ≤ 100) (hwn : ws.length ≤ 100)
    (hd : dp + 4 < recursionLimit) (_hu : un + 40 < cLine)
    (ret : ∀ (q1 q2 q3 q4 q5 q6 : Addr) (o1 o2 o3 o4 : Obj) (x1 x2 x3 x4 x5 : Tok) (es' : List DictEntry) h' tk', Fr h₀ L h' m → News h₀ L h' ((q1, o1) :: (q2, o2) :: (q3, o3) :: (q4, o4) :: (q5, W.listOf #[] 0) :: (q6, W.listOf #[] 0) :: (xA, instObj 114 dx) :: (dx, dictOf es' n) :: news) →
      o1.IsDictOf (PySem.strKind PySem.Challenge.rw_pf0005_01.row.prog w) (storeAll [] (selP kvsN (plainW kvsK ws))) → o2.IsDictOf (PySem.strKind PySem.Challenge.rw_pf0005_01.row.prog w) (storeAll [] (selA kvsK kvsA (someW ws))) → o3.IsDictOf (PySem.strKind PySem.Challenge.rw_pf0005_01.row.prog w) [] → o4.IsDictOf (PySem.strKind PySem.Challenge.rw_pf0005_01.row.prog w) [] → ((q1 == sysModules) = false ∧ (q2 == sysModules) = false ∧ (q3 == sysModules) = false ∧ (q4 == sysModules) = false) →
      HasA es' [(Str.ofString "names", .ref q1), (Str.ofString "arrays", .ref q2), (Str.ofString "kinds", .ref q3), (Str.ofString "fns", .ref q4), (Str.ofString "out", .ref ouA), (Str.ofString "row", .str rw t1), (Str.ofString "inputs", .ref inA), (Str.ofString "files", .ref fiA), (Str.ofString "open", .ref opA), (Str.ofString "fields", .ref feA), (Str.ofString "data", .ref q5), (Str.ofString "spot", .int 0 x1), (Str.ofString "base", .int v2 t3), (Str.ofString "seed", .int v3 t4), (Str.ofString "steps", .int v4 t5), (Str.ofString "depth", .int 0 x2), (Str.ofString "handler", .int 0 x3), (Str.ofString "is_handling", .bool false), (Str.ofString "error_line", .int 0 x4), (Str.ofString "error_code", .str Str.empty x5), (Str.ofString "is_traced", .bool b2), (Str.ofString "traces", .ref trA), (Str.ofString "common", .ref q6)] → es'.length ≤ 1000 → (@LT.lt Nat _ xA q1 ∧ AllLt q1 news) → (@LT.lt Nat _ q1 q2 ∧ AllLt q2 news) → (@LT.lt Nat _ q2 q3 ∧ AllLt q3 news) → (@LT.lt Nat _ q3 q4 ∧ AllLt q4 news) → (@LT.lt Nat _ q4 q5 ∧ AllLt q5 news) → (@LT.lt Nat _ q5 q6 ∧ AllLt q6 news) → Q .none { s with heap := h', toks := tk' }) :
    wpAny (model PySem.Challenge.rw_pf0005_01.row.prog w) (ktrTop dp un gd cn cs L a ccd cl outer) (call (.ref 96) [.ref xA, .ref wA]) Q E s := by
  walk_at "my enter"
  walk_at "my go"
  rename_i hz1 tkz1 dCz1 oCz1 hz2 tqz1 l1z1 loCz1 hdCz1 hz3 Dz1 hz4 l1z2 hz5 hz6 hz7 tkz2 dz1 hz8 oz1 loz1 hsz1 fsz1 hiz1 fiz1 l1z3 dz2 hz9 oz2 loz2 hsz2 fsz2 hiz2 fiz2 l1z4 Dz2 hz10 l1z5 hz11 hz12 es_z1 hA_z1 hz_z1 hz13 es_z2 hA_z2 hz_z2 hz14 es_z3 hA_z3 hz_z3 hz15 es_z4 hA_z4 hz_z4 tkz3 lz1 hz16 l1z6 Dz3 hz17 l1z7 hz18 hz19 es_z5 hA_z5 hz_z5 hz20 es_z6 hA_z6 hz_z6 hz21 es_z7 hA_z7 hz_z7 tkz4 Dz4 hz22 l1z8 hz23 hz24 es_z8 hA_z8 hz_z8 hz25 es_z9 hA_z9 hz_z9 hz26 es_z10 hA_z10 hz_z10 hz27 es_z11 hA_z11 hz_z11 tkz5 lz2 hz28 FFz1 NNz1 l1z9 kFz1 kNz1 Tcz1 kXz1
  refine' ret _ _ _ _ _ _ _ _ _ _ _ _ _ _ _ _ _ _ (by assumption) (news_sub (by assumption) ?sub) ?i1 ?i2 ?i3 ?i4 ⟨?s1, ?s2, ?s3, ?s4⟩ ?hA (by assumption) ?r1 ?r2 ?r3 ?r4 ?r5 ?r6
  case hA => exact hA'.sub (by repeat (first | exact List.forall_mem_nil _ | refine List.forall_mem_cons.mpr ⟨by with_unfolding_all rfl, ?_⟩))
  case sub => walk_at "my sub"
  case i1 => assumption
  case i2 => assumption
  case i3 => assumption
  case i4 => assumption
  case s1 => assumption
  case s2 => assumption
  case s3 => assumption
  case s4 => assumption
  case r1 => exact ⟨by omega, (by assumption : @LT.lt Nat _ _ _ ∧ @LT.lt Nat _ _ _ ∧ AllLt dCz1 news).2.2⟩
  case r2 => exact ⟨by omega, (by assumption : @LT.lt Nat _ _ _ ∧ @LT.lt Nat _ _ _ ∧ @LT.lt Nat _ _ _ ∧ AllLt dC news).2.2.2⟩
  case r3 => exact ⟨by omega, (by assumption : @LT.lt Nat _ _ _ ∧ @LT.lt Nat _ _ _ ∧ @LT.lt Nat _ _ _ ∧ @LT.lt Nat _ _ _ ∧ @LT.lt Nat _ _ _ ∧ AllLt dz1 news).2.2.2.2.2⟩
  case r4 => exact ⟨by omega, (by assumption : @LT.lt Nat _ _ _ ∧ @LT.lt Nat _ _ _ ∧ @LT.lt Nat _ _ _ ∧ @LT.lt Nat _ _ _ ∧ @LT.lt Nat _ _ _ ∧ @LT.lt Nat _ _ _ ∧ AllLt dz2 news).2.2.2.2.2.2⟩
  case r5 => exact ⟨by omega, (by assumption : @LT.lt Nat _ _ _ ∧ @LT.lt Nat _ _ _ ∧ @LT.lt Nat _ _ _ ∧ @LT.lt Nat _ _ _ ∧ @LT.lt Nat _ _ _ ∧ @LT.lt Nat _ _ _ ∧ @LT.lt Nat _ _ _ ∧ @LT.lt Nat _ _ _ ∧ AllLt lz1 news).2.2.2.2.2.2.2.2⟩
  case r6 => exact ⟨by omega, (by assumption : @LT.lt Nat _ _ _ ∧ @LT.lt Nat _ _ _ ∧ @LT.lt Nat _ _ _ ∧ @LT.lt Nat _ _ _ ∧ @LT.lt Nat _ _ _ ∧ @LT.lt Nat _ _ _ ∧ @LT.lt Nat _ _ _ ∧ @LT.lt Nat _ _ _ ∧ @LT.lt Nat _ _ _ ∧ @LT.lt Nat _ _ _ ∧ @LT.lt Nat _ _ _ ∧ AllLt lz2 news).2.2.2.2.2.2.2.2.2.2.2⟩
end

/-! PlainT -/
def rowW : List Str := [Str.ofString "END", Str.ofString "", Str.ofString "A=1", Str.ofString "PRINT 2 "]
def endW : List Str := [Str.ofString "\r", Str.ofString "", Str.ofString "\r\r"]
def sepW : List Str := [Str.ofString "\r", Str.ofString " \r", Str.ofString "", Str.ofString "  "]
/-- a row of a line -/
def topS (n : Int) (x e : Str) : Str := ((Str.ofString (toString n) ++ (if x = Str.ofString "" then Str.ofString "" else Str.ofString " ")) ++ x) ++ e
inductive OkRow : Str → Option (Int × Str) → Prop
  | top (n : Int) (x e : Str) : n ∈ [(10 : Int), 20, 30] → x ∈ rowW → e ∈ endW → OkRow (topS n x e) (some (n, x))
  | sep (x : Str) : x ∈ sepW → OkRow x none
inductive OkRows : List Str → List (Option (Int × Str)) → Prop
  | nil : OkRows [] []
  | cons {r : Str} {a : Option (Int × Str)} {rs : List Str} {as : List (Option (Int × Str))} : OkRow r a → OkRows rs as → OkRows (r :: rs) (a :: as)
theorem OkRows.snoc {rs : List Str} {as : List (Option (Int × Str))} {r : Str} {a : Option (Int × Str)} (h : OkRows rs as) (k : OkRow r a) : OkRows (rs ++ [r]) (as ++ [a]) := by
  induction h with
  | nil => exact .cons k .nil
  | cons h _ ih => exact .cons h ih
theorem OkRows.at {rs : List Str} {as : List (Option (Int × Str))} (h : OkRows rs as) : ∀ {i : Nat} {r : Str}, rs[i]? = some r → ∃ a, as[i]? = some a ∧ OkRow r a := by
  induction h with
  | nil => intro i r e; simp at e
  | cons h _ ih => intro i r e; cases i with
    | zero => simp at e; subst e; exact ⟨_, rfl, h⟩
    | succ i => exact ih (by simpa using e)
theorem OkRows.len {rs : List Str} {as : List (Option (Int × Str))} (h : OkRows rs as) : rs.length = as.length := by
  induction h with
  | nil => rfl
  | cons _ _ ih => simp [ih]
/-- what a row does to the program -/
def actA (m : List (Int × Value)) : Option (Int × Str) → List (Int × Value)
  | none => m
  | some (n, x) => if x = Str.ofString "" then without m n else stored m n (.str x 0)
/-- the same keys with the same texts -/
inductive SameV : List (Int × Value) → List (Int × Value) → Prop
  | nil : SameV [] []
  | cons (n : Int) (x : Str) (t t' : Tok) {a b : List (Int × Value)} : SameV a b → SameV ((n, .str x t) :: a) ((n, .str x t') :: b)
theorem SameV.symm {a b : List (Int × Value)} (h : SameV a b) : SameV b a := by
  induction h with
  | nil => exact .nil
  | cons n x t t' _ ih => exact .cons n x t' t ih
theorem SameV.trans {a b : List (Int × Value)} (h : SameV a b) : ∀ {c}, SameV b c → SameV a c := by
  induction h with
  | nil => exact fun k => k
  | cons n x t t' _ ih => intro c k; cases k with
    | cons _ _ _ t2 k => exact .cons n x t t2 (ih k)
theorem SameV.without {a b : List (Int × Value)} (h : SameV a b) (n : Int) : SameV (PySem.without a n) (PySem.without b n) := by
  induction h with
  | nil => exact .nil
  | cons m x t t' _ ih =>
    unfold PySem.without at ih ⊢
    rw [List.filter_cons, List.filter_cons]
    by_cases c : m = n
    · simpa [c] using ih
    · simp only [ne_eq, c, not_false_eq_true, decide_true, if_true]
      exact .cons m x t t' ih
theorem SameV.keys {a b : List (Int × Value)} (h : SameV a b) : a.map (·.1) = b.map (·.1) := by
  induction h with
  | nil => rfl
  | cons m x t t' _ ih => simp [ih]
theorem SameV.any {a b : List (Int × Value)} (h : SameV a b) (n : Int) : (a.any fun kv => kv.1 = n) = (b.any fun kv => kv.1 = n) := by
  induction h with
  | nil => rfl
  | cons m x t t' _ ih => simp [List.any_cons, ih]
theorem SameV.snoc {a b : List (Int × Value)} (h : SameV a b) (n : Int) (x : Str) (t t' : Tok) : SameV (a ++ [(n, .str x t)]) (b ++ [(n, .str x t')]) := by
  induction h with
  | nil => exact .cons _ _ _ _ .nil
  | cons m y u u' _ ih => exact .cons _ _ _ _ ih
theorem SameV.put {a b : List (Int × Value)} (h : SameV a b) (n : Int) (x : Str) (t t' : Tok) : SameV (a.map fun kv => if kv.1 = n then (kv.1, .str x t) else kv) (b.map fun kv => if kv.1 = n then (kv.1, .str x t') else kv) := by
  induction h with
  | nil => exact .nil
  | cons m y u u' _ ih =>
    rw [List.map_cons, List.map_cons]
    by_cases c : m = n
    · simp only [c, if_true]
      exact .cons _ _ _ _ ih
    · simp only [c, if_false]
      exact .cons _ _ _ _ ih
theorem SameV.stored {a b : List (Int × Value)} (h : SameV a b) (n : Int) (x : Str) (t t' : Tok) : SameV (PySem.stored a n (.str x t)) (PySem.stored b n (.str x t')) := by
  unfold PySem.stored
  rw [h.any n]
  split
  · exact h.put n x t t'
  · exact h.snoc n x t t'
theorem SameV.len {a b : List (Int × Value)} (h : SameV a b) : a.length = b.length := by
  induction h with
  | nil => rfl
  | cons m x t t' _ ih => simp [ih]
theorem stored_len {K : Type} [DecidableEq K] (kvs : List (K × Value)) (k : K) (v : Value) : (stored kvs k v).length ≤ kvs.length + 1 := by
  unfold stored
  split <;> simp
theorem without_len {K : Type} [DecidableEq K] (kvs : List (K × Value)) (k : K) : (without kvs k).length ≤ kvs.length := List.length_filter_le _ _
section
variable {prog : Program} {w : World} {A : Around} {E : Value → Shared → Prop} {s : Shared} {h₀ : Heap} {L d : Addr} {m : Str → Option Value} {news : List (Addr × Obj)} {g : Obj → List (Addr × Obj)} {o : Obj} {kvs : List (Int × Value)} {k : Int} {t : Tok}
theorem pop_int {Q : Value → Shared → Prop} (F : Fr h₀ L s.heap m) (N : News h₀ L s.heap news) (U : UpdF d o news g) (hd : o.IsDictOf (PySem.intKind prog w) kvs) (lo : (d == sysModules) = false) (hsz : kvs.length ≤ 1000)
    (h : ∀ v h' o' tk', Fr h₀ L h' m → News h₀ L h' (g o') → o'.IsDictOf (PySem.intKind prog w) (without kvs k) → Q v { s with heap := h', toks := tk' }) :
    wpAny (model prog w) A (call (.builtin "dict.pop") [.ref d, .int k t, .none]) Q E s := by
  cases hv : valueAt kvs k with
  | some v => exact kob_pop (more := [_]) F N U hd (intKind_is _ _ _ _) (.inr ⟨_, rfl⟩) (by rfl) (PySem.F.args_dict_pop_3 _ _ _) hv (by rw [sizeLine_eq]; omega) fun h' o' F' N' hd' => h v h' o' _ F' N' hd'
  | none =>
    have U' := U
    obtain ⟨pre, post, rfl, hg, a, b⟩ := U'.split
    have hm := N (d, o) (List.mem_append_right _ (.head _))
    have hD : s.heap.DictOf (PySem.intKind prog w) d kvs := Heap.dictOf_iff.mpr ⟨o, hm.1, hd⟩
    refine call_meetsIn PySem.F.slot_dict_pop hD.typeIs PySem.F.entry_dict_pop (PySem.F.args_dict_pop_3 _ _ _) (meets_dict_pop_default _ d (intKind_is _ _ _ _) lo rfl .none) ⟨kvs, hD, hv, ?_⟩
    refine h _ s.heap o _ F (by rw [hg]; exact N) ?_
    rw [without_of_not_mem]
    · exact hd
    · intro hm
      obtain ⟨p, hp, rfl⟩ := List.mem_map.mp hm
      unfold valueAt at hv
      simp only [Option.map_eq_none_iff, List.find?_eq_none] at hv
      exact hv p hp (by simp)
theorem append_U {D : Addr} {vs : List Value} {n : Nat} {v : Value} {Q : Value → Shared → Prop} (F : Fr h₀ L s.heap m) (N : News h₀ L s.heap news) (U : UpdF D (W.listOf vs.toArray n) news g) (hz : vs.length ≤ 1000)
    (h : ∀ h', Fr h₀ L h' m → News h₀ L h' (g (W.listOf (vs ++ [v]).toArray (n + 1))) → Q .none { s with heap := h' }) :
    wpAny (model prog w) A (call (.builtin "list.append") [.ref D, v]) Q E s := by
  obtain ⟨pre, post, rfl, hg, a, b⟩ := U.split
  have hm := N (D, W.listOf vs.toArray n) (List.mem_append_right _ (.head _))
  refine append_at (hsz := by rw [sizeLine_eq, List.size_toArray]; omega) hm.1 fun h' hs ho' => ?_
  have e : vs.toArray.push v = (vs ++ [v]).toArray := List.push_toArray _ _
  rw [e] at ho'
  exact h h' (F.change hs hm.2.1 hm.2.2) (hg _ ▸ N.setIn a b hs ho')
/-- an item of a written list of texts -/
theorem item_words {value slice : PySem.Expr} {l : Addr} {vs : List Value} {ws : List Str} {n : Nat} {u : Tok} {Q : Value → Shared → Prop} (N : News h₀ L s.heap news) (hm : (l, W.listOf vs.toArray n) ∈ news) (hw : StrsAre vs ws) (h0 : 0 ≤ k) (h1 : k < (ws.length : Int)) (hf : ws.length ≤ 1000)
    (h : ∀ x t', x ∈ ws → Q (.str x t') s)
    (hs : subscripted slice false (.ref l) (.int k u) = operate [.ref l, .int k u] (getItem (.ref l) (.int k u)) := by with_unfolding_all rfl) :
    wpAny (model prog w) A (subscriptTail value slice (.ref l) (.int k u)) Q E s := by
  refine KTb.item_list ⟨_, (N _ hm).1, rfl, _, rfl⟩ hw h0 h1 (by omega) (fun t' hl => h _ t' ?_) hs
  rw [List.getD_eq_getElem?_getD, List.getElem?_eq_getElem hl]
  exact List.getElem_mem hl
end
/-- join of parts, as signs -/
noncomputable def joinL (c : Nat) : List (List Nat) → List Nat
  | [] => []
  | [x] => x
  | x :: y :: r => x ++ c :: joinL c (y :: r)
theorem cut_eq {c : Nat} : ∀ {x x' t t' : List Nat}, c ∉ x → c ∉ x' → x ++ c :: t = x' ++ c :: t' → x = x' ∧ t = t' := by
  intro x
  induction x with
  | nil => intro x' t t' _ h2 e; cases x' with
    | nil => simpa using e
    | cons b r => simp at e; exact absurd (e.1 ▸ List.mem_cons_self) h2
  | cons a r ih => intro x' t t' h1 h2 e; cases x' with
    | nil => simp at e; exact absurd (e.1 ▸ List.mem_cons_self) h1
    | cons b r' =>
      simp only [List.cons_append, List.cons.injEq] at e
      obtain ⟨rfl, e⟩ := e
      obtain ⟨rfl, rfl⟩ := ih (fun m => h1 (.tail _ m)) (fun m => h2 (.tail _ m)) e
      exact ⟨rfl, rfl⟩
theorem joinL_inj {c : Nat} : ∀ {as bs : List (List Nat)}, as ≠ [] → bs ≠ [] → (∀ p ∈ as, c ∉ p) → (∀ p ∈ bs, c ∉ p) → joinL c as = joinL c bs → as = bs := by
  intro as
  induction as with
  | nil => intro bs h; exact absurd rfl h
  | cons x r ih =>
    intro bs _ hb fa fb e
    cases bs with
    | nil => exact absurd rfl hb
    | cons y r' =>
      cases r with
      | nil => cases r' with
        | nil => simpa [joinL] using e
        | cons y2 r2 =>
          simp only [joinL] at e
          exact absurd (e ▸ List.mem_append_right _ List.mem_cons_self) (fa x (.head _))
      | cons x2 r1 => cases r' with
        | nil =>
          simp only [joinL] at e
          exact absurd (e ▸ List.mem_append_right _ List.mem_cons_self) (fb y (.head _))
        | cons y2 r2 =>
          simp only [joinL] at e
          obtain ⟨e1, e2⟩ := cut_eq (fa x (.head _)) (fb y (.head _)) e
          rw [e1, ih (List.cons_ne_nil _ _) (List.cons_ne_nil _ _) (fun p m => fa p (.tail _ m)) (fun p m => fb p (.tail _ m)) e2]
theorem join_list (c : Nat) : ∀ rs : List Str, (Str.join ⟨#[c]⟩ rs).cps.toList = joinL c (rs.map fun r => r.cps.toList)
  | [] => rfl
  | [x] => rfl
  | x :: y :: r => by
    have e : (Str.join ⟨#[c]⟩ (x :: y :: r)).cps = (x.cps ++ #[c]) ++ (Str.join ⟨#[c]⟩ (y :: r)).cps := rfl
    rw [e, Array.toList_append, Array.toList_append, join_list c (y :: r)]
    simp [joinL]
theorem split_ne {x y : Str} : Txt.split x y ≠ [] := by
  unfold Txt.split
  split
  · exact List.cons_ne_nil _ _
  · split
    · exact List.cons_ne_nil _ _
    · rw [StrLaws.partsBetween_eq]
      cases Builtin.Str.occurrences x y 0 x.length (x.length + 1) with
      | nil => exact List.cons_ne_nil _ _
      | cons a r => exact List.cons_ne_nil _ _
theorem split_join {c : Nat} {rs : List Str} (h : rs ≠ []) (hf : ∀ r ∈ rs, c ∉ r.cps.toList) : Txt.split (Txt.join ⟨#[c]⟩ rs) ⟨#[c]⟩ = rs := by
  have e1 : Txt.join ⟨#[c]⟩ rs = Str.join ⟨#[c]⟩ rs := StrLaws.glued_eq_join _ _
  have e2 := StrLaws.join_split (Txt.join ⟨#[c]⟩ rs) ⟨#[c]⟩
  rw [e1] at e2 ⊢
  have e3 := congrArg (fun z : Str => z.cps.toList) e2
  simp only [join_list] at e3
  have e4 := joinL_inj (c := c) (by simpa using split_ne) (by simpa using h) (by
    intro p hp
    obtain ⟨z, hz, rfl⟩ := List.mem_map.mp hp
    exact StrLaws.split_free _ c z hz) (by
    intro p hp
    obtain ⟨z, hz, rfl⟩ := List.mem_map.mp hp
    exact hf z hz) e3
  exact List.map_inj_right (fun a b e => Str.ext' (Array.toList_inj.mp e)) |>.mp e4

/-! Loops3 -/
theorem rangeRest_at {prog : Program} {w : World} {A : Around} {E : Value → Shared → Prop} {h₀ : Heap} {env : Env} {x : Str} {body : List Stmt} {Q : Flow → Shared → Prop} {s : Shared} {I : Addr} {a : Int} {n k i : Nat} {m : Str → Option Value} {news : List (Addr × Obj)}
    (h : RangeRest prog w A E h₀ env x body Q s I a n k i m news) : RangeRest prog w A E h₀ env x body Q s I a n k i m news := h
theorem frame4 {a b c d : Str} {m m₀ : Str → Option Value} (h : ∀ y, y ≠ a → y ≠ b → y ≠ c → y ≠ d → m y = m₀ y) : m = fun y => if y = a then m y else if y = b then m y else if y = c then m y else if y = d then m y else m₀ y := by
  funext y
  split; · rfl
  split; · rfl
  split; · rfl
  split; · rfl
  exact h y ‹_› ‹_› ‹_› ‹_›
section
variable {prog : Program} {w : World} {A : Around} {E : Value → Shared → Prop} {s : Shared} {h₀ : Heap} {env : Env} {x : Str} {body : List Stmt} {Q : Flow → Shared → Prop} {m₀ : Str → Option Value} {news : List (Addr × Obj)}
/-- a walk over a range by an invariant -/
theorem rangeRest_inv {I : Addr} {a : Int} {n : Nat} (J : Nat → (Str → Option Value) → List (Addr × Obj) → Prop)
    (turn : ∀ i m news, i < n → J i m news → ∀ (u : Tok) (it : Obj) h tk, Fr h₀ env.locals h (fun y => if y = x then some (.int (a + (i : Int)) u) else m y) → News h₀ env.locals h ((I, it) :: news) →
      wpAny (model prog w) A (execs body env) (UnrPost h₀ env.locals { s with heap := h, toks := tk } I it (fun m' n' => J (i + 1) m' n') Q) E { s with heap := h, toks := tk })
    (fin : ∀ m news, J n m news → ∀ h tk, Fr h₀ env.locals h m → News h₀ env.locals h news → Q .next { s with heap := h, toks := tk })
    {m : Str → Option Value} {news : List (Addr × Obj)} (h0 : J 0 m news) : RangeRest prog w A E h₀ env x body Q s I a n n 0 m news := by
  have go : ∀ (k i : Nat), i + k = n → ∀ m news, J i m news → RangeRest prog w A E h₀ env x body Q s I a n k i m news := by
    intro k
    induction k with
    | zero =>
      intro i e m news j
      obtain rfl : i = n := by omega
      exact fin m news j
    | succ k ih =>
      intro i e m news j
      exact RangeRest.succ fun u h tk F N => wpAny_mono (turn i m news (by omega) j u _ h tk F N) (fun f s' z => unrPost_mono z fun m' n' z => ih (i + 1) (by omega) m' n' z) fun _ _ z => z
  exact go n 0 (by omega) m news h0
theorem rangeRest_inv3 {I : Addr} {c : Int} {n : Nat} (a b : Str) (J : Nat → List (Addr × Obj) → Prop)
    (turn : ∀ i nw, i < n → J i nw → ∀ (u : Str → Option Value) (t : Tok) (it : Obj) h tk, Fr h₀ env.locals h (fun y => if y = x then some (.int (c + (i : Int)) t) else if y = a then u y else if y = b then u y else m₀ y) → News h₀ env.locals h ((I, it) :: nw) →
      wpAny (model prog w) A (execs body env) (UnrPost h₀ env.locals { s with heap := h, toks := tk } I it (fun m' n' => (∀ y, y ≠ x → y ≠ a → y ≠ b → m' y = m₀ y) ∧ J (i + 1) n') Q) E { s with heap := h, toks := tk })
    (fin : ∀ nw, J n nw → ∀ (u : Str → Option Value) h tk, Fr h₀ env.locals h (fun y => if y = x then u y else if y = a then u y else if y = b then u y else m₀ y) → News h₀ env.locals h nw → Q .next { s with heap := h, toks := tk })
    (h0 : J 0 news) : RangeRest prog w A E h₀ env x body Q s I c n n 0 m₀ news := by
  refine rangeRest_inv (fun i m nw => (∀ y, y ≠ x → y ≠ a → y ≠ b → m y = m₀ y) ∧ J i nw) ?_ ?_ ⟨fun _ _ _ _ => rfl, h0⟩
  · intro i m nw hi hj t it h tk F
    have e : (fun y => if y = x then some (Value.int (c + (i : Int)) t) else m y) = fun y => if y = x then some (.int (c + (i : Int)) t) else if y = a then m y else if y = b then m y else m₀ y := by
      funext y
      split; · rfl
      split; · rfl
      split; · rfl
      exact hj.1 y ‹_› ‹_› ‹_›
    rw [e] at F
    exact turn i nw hi hj.2 m t it h tk F
  · intro m nw hj h tk F N
    rw [frame3 hj.1] at F
    exact fin nw hj.2 m h tk F N
theorem items_inv4 {target : PySem.Expr} {ws : List (Addr × String)} {keep : List (Addr × Obj)} {l : List Itm} (a b c d : Str) (J : Nat → List (Addr × Obj) → Prop)
    (turn : ∀ i it nw, l[i]? = some it → J i nw → ∀ (u : Str → Option Value) v h tk, it.Is v h → Fr h₀ env.locals h (fun y => if y = a then u y else if y = b then u y else if y = c then u y else if y = d then u y else m₀ y) → AllObj ws (fun its => News h₀ env.locals h (its ++ nw) →
      wpAny (model prog w) A (assign target env v) (fun _ s₂ => wpAny (model prog w) A (execs body env) (UnrPostW h₀ env.locals { s with heap := h, toks := tk } its (fun m' n' => SubL keep n' ∧ (∀ y, y ≠ a → y ≠ b → y ≠ c → y ≠ d → m' y = m₀ y) ∧ J (i + 1) n') Q) E s₂) E { s with heap := h, toks := tk }))
    (fin : ∀ nw, J l.length nw → ∀ (u : Str → Option Value) h tk, Fr h₀ env.locals h (fun y => if y = a then u y else if y = b then u y else if y = c then u y else if y = d then u y else m₀ y) → News h₀ env.locals h nw → Q .next { s with heap := h, toks := tk })
    (h0 : J 0 news) : ItemsRest prog w A E h₀ env target body Q s ws keep l m₀ news := by
  refine items_inv (fun i m nw => (∀ y, y ≠ a → y ≠ b → y ≠ c → y ≠ d → m y = m₀ y) ∧ J i nw) ?_ ?_ ⟨fun _ _ _ _ _ => rfl, h0⟩
  · intro i it m nw hi hj v h tk hv F
    rw [frame4 hj.1] at F
    exact turn i it nw hi hj.2 m v h tk hv F
  · intro m nw hj h tk F N
    rw [frame4 hj.1] at F
    exact fin nw hj.2 m h tk F N
end

/-! Num -/
theorem rows_9 : True := by
  k_with_none
  k_with "my enter" => ((refine wpAny_call ?_; k_dflt (refine' code_defG ?k1 ?k2 ?k3 ?k4 ?k5 ?kA ?kF ?kK ?k6 ?k7 ?k8 ?k9 ?kB ?_ ?c2 ?c3 ?c4 ?c5; (case kA => exact rfl); (case kF => exact rfl); (case kK => assumption); (case k1 => k_asm); (case k2 => k_asm); (case k3 => k_asm); (case k4 => k_asm); (case k5 => k_asm); (case k6 => k_is); (case k7 => k_is); (case k8 => ktr_room); (case k9 => exact BindsTo.of_eq rfl); (case c5 => decide); (case kB => exact locs rfl); (case c2 => exact rfl); (case c3 => exact rfl); (case c4 => exact rfl); k_whole; intro g' L' h' FG' F' N' B' X' T' kG'; (try dsimp only); (try k_lift B'); (try k_fold))))
  k_with "my enterC" => ((refine wpAny_call ?_; k_dflt (refine' code_defC ?k1 ?k2 ?k3 ?k4 ?k5 ?kA ?kF ?kK ?k6 ?k7 ?k8 ?k9 ?kB ?kD ?_ ?c2 ?c3 ?c4; (case kA => exact rfl); (case kF => exact rfl); (case kK => assumption); (case k1 => k_asm); (case k2 => k_asm); (case k3 => k_asm); (case k4 => k_asm); (case k5 => k_asm); (case k6 => k_is); (case k7 => k_is); (case k8 => ktr_room); (case k9 => exact BindsTo.of_eq rfl); (case kB => exact rfl); (case kD => decide +kernel); (case c2 => exact rfl); (case c3 => exact rfl); (case c4 => exact rfl); k_whole; intro g' L' h' tk' cells' FG' F' N' Y' B' X' T' l1; (try k_lt l1); (obtain ⟨oc, hE', d1⟩ := CellsAre.one Y'; subst hE'; clear Y'); (try simp only [List.cons_append, List.nil_append] at N'); (try dsimp only); (try k_lift B'); (try k_fold))))
  k_with "ite" => (first | with_reducible refine ite_tt ?_ | with_reducible refine ite_ff ?_)
  k_with "call ref" => ((k_here; k_dflt (refine' kind_K ?k1 ?k2 ?k3 ?k4 ?k5 ?k6 ?k7 ?k8 ?k9 ?ka ?kb ?kc ?kd ?ke ?_; (case k1 => k_asm); (case k2 => k_asm); (case k3 => k_asm); (case k4 => k_asm); (case k5 => k_asm); (case k6 => first | exact rfl | assumption); (case k7 => k_mem); (case k8 => k_asm); (case k9 => k_asm); (case ka => ktr_room); (case kb => ktr_units); (case kc => first | assumption | omega); (case kd => first | assumption | omega); (case ke => first | assumption | exact allStr_nil); k_whole; intro t' h' tk' F' N' cE')))
  k_with "call ref" => ((k_here; k_dflt (refine' isarr_K ?k1 ?k2 ?k3 ?k4 ?k5 ?k6 ?ka ?kb ?kc ?kd ?_; (case k1 => k_asm); (case k2 => k_asm); (case k3 => k_asm); (case k4 => k_asm); (case k5 => k_asm); (case k6 => first | exact rfl | assumption); (case ka => ktr_room); (case kb => ktr_units); (case kc => first | assumption | omega); (case kd => first | assumption | omega); k_whole; intro h' tk' F' N')))
  k_with "call ref" => ((k_here; k_dflt (refine' means_K ?k1 ?k2 ?k3 ?k4 ?k5 ?k6 ?k7 ?k71 ?k72 ?k73 ?k8 ?k9 ?ka ?kb ?kc ?kd ?ke ?_; (case k1 => k_asm); (case k2 => k_asm); (case k3 => k_asm); (case k4 => k_asm); (case k5 => k_asm); (case k6 => first | exact rfl | assumption); (case k71 => k_mem); (case k72 => k_mem); (case k73 => first | assumption | k_get); (case k7 => k_mem); (case k8 => k_asm); (case k9 => k_asm); (case ka => ktr_room); (case kb => ktr_units); (case kc => first | assumption | omega | exact (hkl _ (by assumption)).1); (case kd => first | assumption | omega | exact (hkl _ (by assumption)).2); (case ke => first | assumption | exact allStr_nil); k_whole; intro h' tk' F' N')))
  k_with "getAttr ref" => ((k_here; k_dflt (refine' get_own ?F ?X ?I ?g ?h ?a ?n ?l ?v ?_; (case F => k_asm); (case X => k_asm); (case I => k_inst); (case g => k_is); (case h => k_is); (case a => k_is); (case n => k_is); (case l => assumption); (case v => k_handed); k_whole)))
  k_with "exec Assign cons ListComp" => ((k_here; k_dflt (refine LCt.Assign_ListComp_T (F₀ := by k_asm) (by rfl) (by with_unfolding_all rfl) (by with_unfolding_all rfl) (by decide) (by rfl) (by decide) (by rfl) (by rfl) (by rfl) ?_)))
  k_with "eval ListComp" => ((k_here; k_dflt (refine LCt.ListComp_T (F₀ := by k_asm) (by with_unfolding_all rfl) (by decide) (by rfl) (by decide) (by rfl) ?_)))
  k_with "compareOp In str ref" => ((k_here; k_dflt (refine kda_in (knd := PySem.strKind _ _) (by k_asm) (by k_mem) (by k_asm) (by k_asm) (strKind_is _ _ _ _) ((valueAt _ _).isSome) (by rfl) ?_)))
  k_with "subscriptTail" => ((k_here; (with_reducible show wpAny _ _ (subscriptTail _ _ (Value.ref _) (Value.str _ _)) _ _ _); (obtain ⟨v9, hv9⟩ := Option.isSome_iff_exists.mp (by assumption : (valueAt _ _).isSome = true)); k_dflt (refine kda_item (knd := PySem.strKind _ _) (by k_asm) (by k_mem) (by k_asm) (strKind_is _ _ _ _) hv9 ?_)))
  k_with "call type:dict" => ((k_here; (with_reducible show wpAny _ _ (call (Value.type "dict") [Value.ref _]) _ _ _); k_dflt (refine' dict_pairs_K ?kh ?k1 ?k2 ?k3 ?k4 ?k5 ?k6 ?_; (case kh => exact rfl); (case k1 => k_asm); (case k2 => k_asm); (case k3 => exact modules_low (Top.nolimit (by k_asm))); (case k4 => k_mem); (case k5 => assumption); (case k6 => omega); k_whole; intro d' o' h' tk' F' N' l1 lo' hd')))
  k_with "call type:list" => ((k_here; (with_reducible show wpAny _ _ (call (Value.type "list") [Value.ref _]) _ _ _); k_dflt (refine' list_items_K ?kh ?k1 ?k2 ?k3 ?k4 ?k5 ?k6 ?_; (case kh => exact rfl); (case k1 => k_asm); (case k2 => k_asm); (case k3 => k_mem); (case k4 => k_mem); (case k5 => k_asm); (case k6 => omega); k_whole; intro lS its9 c9 extra9 h' tk' F' N' hP9)))
  k_with "call type:dict" => ((k_here; (with_reducible show wpAny _ _ (call (Value.type "dict") [Value.ref _]) _ _ _); k_dflt (refine' dict_pairs_drop ?kh ?k1 ?k2 ?k3 ?k4 ?k5 ?k6 ?_; (case kh => exact rfl); (case k1 => k_asm); (case k2 => k_asm); (case k3 => exact modules_low (Top.nolimit (by k_asm))); (case k4 => exact rfl); (case k5 => assumption); (case k6 => omega); k_whole; intro dK oK h' tk' F' N' lK loK hdK; (try simp only [AllLt, and_true] at lK))))
  k_with "call ref" => ((k_here; k_dflt (refine' take_F ?k1 ?k2 ?k3 ?k4 ?k5 ?k6 ?k7 ?k8 ?k9 ?ka ?kb ?kc ?kd ?ke ?kf ?kg ?kh ?_; (case k1 => k_asm); (case k2 => k_asm); (case k3 => k_asm); (case k4 => k_asm); (case k5 => k_asm); (case k6 => first | exact rfl | assumption); (case k7 => k_updF); (case k8 => k_mem); (case k9 => assumption); (case ka => omega); (case kb => omega); (case kc => decide); (case kd => decide); (case ke => omega); (case kf => ktr_room); (case kg => ktr_units); (case kh => assumption); k_whole; intro rr tr tp h' tk' hr0 hr1 F' N'; (try dsimp only at N'))))
  k_with "call ref" => ((k_here; k_dflt (refine' own_K ?k1 ?k2 ?k3 ?k4 ?k5 ?k6 ?k7 ?k8 ?k9 ?ka ?kb ?kc ?kd ?ke ?_; (case k1 => k_asm); (case k2 => k_asm); (case k3 => k_asm); (case k4 => k_asm); (case k5 => k_asm); (case k6 => first | exact rfl | assumption); (case k7 => k_mem); (case k8 => k_asm); (case k9 => k_asm); (case ka => ktr_room); (case kb => ktr_units); (case kc => first | assumption | omega | decide); (case kd => first | assumption | omega | decide); (case ke => first | assumption | exact allStr_nil); k_whole; intro qo to h' tk' F' N' l1; (try simp only [AllLt, and_true] at l1))))
  k_with "cj" => (with_reducible (first | assumption | exact And.right (by first | assumption | exact And.right (by first | assumption | exact And.right (by first | assumption | exact And.right (by first | assumption | exact And.right (by first | assumption | exact And.right (by first | assumption | exact And.right (by first | assumption | exact And.right (by first | assumption | exact And.right (by first | assumption | exact And.right (by first | assumption | exact And.right (by first | assumption | exact And.right (by first | assumption | exact And.right (by first | assumption | exact And.right (by first | assumption | exact And.right (by first | assumption | exact And.right (by first | assumption | exact And.right (by first | assumption | exact And.right (by first | assumption | exact And.right (by first | assumption | exact And.right (by first | assumption | exact And.right (by first | assumption | exact And.right (by first | assumption | exact And.right (by first | assumption | exact And.right (by first | assumption | exact And.right (by first | assumption | exact And.right (by assumption))))))))))))))))))))))))))))
  k_with "ne" => (first | exact Nat.ne_of_gt (And.left (by k_extra "cj")) | exact Nat.ne_of_lt (And.left (by k_extra "cj")) | exact Nat.ne_of_gt (by with_reducible assumption) | exact Nat.ne_of_lt (by with_reducible assumption) | exact Nat.ne_of_gt (by k_extra "cj") | exact Nat.ne_of_lt (by k_extra "cj") | (refine neN ?_; (try dsimp only); omega))
  k_with "all" => (first | exact List.forall_mem_nil _ | (refine' List.forall_mem_cons.mpr ⟨?a, ?b⟩; (case a => first | exact Nat.ne_of_lt (And.left (by k_extra "cj")) | k_ne); (case b => k_all)) | assumption | exact allLt_ne (by k_extra "cj") | exact gt_ne (by assumption) (by first | assumption | omega) | fail "k_all")
  k_with "call ref" => ((k_here; k_dflt (refine' own3_K ?k1 ?k2 ?k3 ?k4 ?k5 ?k6 ?k7 ?k8 ?k9 ?ka ?kb ?kc ?kd ?ke ?_ ?_ ?_; (case k1 => k_asm); (case k2 => k_asm); (case k3 => k_asm); (case k4 => k_asm); (case k5 => k_asm); (case k6 => first | exact rfl | assumption); (case k7 => k_mem); (case k8 => k_asm); (case k9 => k_asm); (case ka => ktr_room); (case kb => ktr_units); (case kc => first | assumption | omega | decide); (case kd => first | assumption | omega | decide); (case ke => first | assumption | exact K3.nil); k_whole; all_goals (intro qo to h' tk' eO9 F' N' l1; (try simp only [AllLt, and_true] at l1)))))
  k_with "eval Dict" => ((k_here; k_dflt (first
        | (refine' kdn_str ?q ?F ?N ?b ?a ?l ?e ?n ?_; (case q => rfl); (case F => k_asm); (case N => first | k_asm | exact News.nil); (case b => exact Top.nolimit (by k_asm)); (case a => rfl); (case l => rfl); (case e => exact List.cons_ne_nil _ _); (case n => exact Nat.le_of_ble_eq_true rfl))
        | (refine' kdn_int ?q ?F ?N ?b ?a ?l ?e ?n ?_; (case q => rfl); (case F => k_asm); (case N => first | k_asm | exact News.nil); (case b => exact Top.nolimit (by k_asm)); (case a => rfl); (case l => rfl); (case e => exact List.cons_ne_nil _ _); (case n => exact Nat.le_of_ble_eq_true rfl))); intro d' h' o' F' N' l1 lo' hd'; (try k_lt l1)))
  k_with "setItem ref str" => ((k_here; k_dflt (refine' kda_set (knd := PySem.strKind _ _) ?F ?N ?U ?d (strKind_is _ _ _ _) ?z ?_; (case F => k_asm); (case N => k_asm); (case U => k_updF); (case d => assumption); (case z => rw [sizeLine_eq]; omega)); intro h' o' F' N' hdS'; (try dsimp only at N')))
  k_with "my sub" => (((repeat (refine List.forall_mem_cons.mpr ⟨by k_mem, ?_⟩)); first | exact List.forall_mem_nil _ | (intro p hp; repeat (first | exact hp | refine List.Mem.tail _ ?_))))
  k_with "execs cons" => (first | (k_here; k_gentoks) | ((with_reducible refine wpAny_execs_cons ?_); try dsimp only))
  k_with "assignInOrder" => ((dsimp only; walk_at "assignInOrder"))
  k_with "enter" => (first
        | (refine' code_def ?k1 ?k2 ?k3 ?k4 ?k5 ?kA ?kF ?kK ?k6 ?k7 ?k8 ?k9 ?kB ?_ ?c2 ?c3 ?c4 ?c5; (case kA => exact rfl); (case kF => exact rfl); (case kK => first | exact rfl | assumption); (case k1 => k_asm); (case k2 => k_asm); (case k3 => k_asm); (case k4 => k_asm); (case k5 => k_asm); (case k6 => k_is); (case k7 => k_is); (case k8 => ktr_room); (case k9 => first | exact BindsTo.of_eq rfl | exact binds_K (by k_in) rfl (by k_is) rfl rfl rfl | fail "k_enter: no rule for these arguments"); (case c5 => decide); (case kB => exact locs rfl); (case c2 => exact rfl); (case c3 => exact rfl); (case c4 => exact rfl); k_whole; intro g' L' h' FG' F' N' B' X' T'; (try dsimp only); (try k_lift B'); (try k_fold)))
  k_with "call type:list" => ((k_here; (with_reducible show wpAny _ _ (call (Value.type "list") [Value.ref _]) _ _ _); k_dflt (refine' list_keys_K ?kh ?k1 ?k2 ?k3 ?k4 ?k5 ?k6 ?_; (case kh => exact rfl); (case k1 => k_asm); (case k2 => k_asm); (case k3 => k_mem); (case k4 => assumption); (case k5 => k_asm); (case k6 => omega); k_whole; intro lN2 cN2 vsN h' tk' hvN F' N' lNN; (try simp only [AllLt, and_true] at lNN))))
  k_with "binaryOp Add ref ref" => ((k_here; (with_reducible show wpAny _ _ (binaryOp _ (Value.ref _) (Value.ref _)) _ _ _); k_dflt (refine' add_lists_K ?F ?N ?a ?b ?z ?_; (case F => k_asm); (case N => k_asm); (case a => k_mem); (case b => k_mem); (case z => walk_at "my len")); intro D' h' F' N' l1; (try simp only [AllLt, and_true] at l1)))
  k_with "my len" => (((have hLn9 := strsAre_len hvN); (simp only [List.length_append, List.length_map, List.length_cons, List.length_nil] at *); omega))
  k_with "exec Assign cons ListComp" => ((k_here; (with_reducible show wpAny _ _ (exec (.Assign _ (.ListComp _ [⟨_, .Attribute _ _ _, _, _⟩] _ _) _) _) _ _ _); k_dflt (refine Assign_ListComp_TD (knd := PySem.strKind _ _) (by k_asm) (by rfl) (by with_unfolding_all rfl) (by with_unfolding_all rfl) (by decide) (by rfl) (by decide) (by rfl) (by rfl) (by rfl) ?_)))
  k_with "compareOp In str ref" => ((k_here; k_dflt (refine in_words_K (by k_asm) (by k_mem) hWd ?_)))
  k_with "getItem ref str" => ((k_here; k_dflt (refine kdt_getItem (knd := PySem.strKind _ _) (by k_asm) (by k_mem) (by k_asm) (strKind_is _ _ _ _) (by assumption) ?_)))
  k_with "my go" => (repeat' ((fail_if_success with_reducible refine strRest_at ?_); (fail_if_success with_reducible refine itemsRest_at ?_); first | (k_unfold; (try dsimp only)) | walk1 | (dsimp only; walk1) | fail "no step"))
  k_with "getAttr ref" => ((k_here; k_dflt (refine' get_attr_K ?k1 ?k2 ?k3 ?h1 ?h2 ?k4 ?k5 ?k6 ?k7 ?hA ?hl ?k9 ?_; (case k1 => k_asm); (case k2 => k_asm); (case k3 => k_asm); (case h1 => k_mem); (case h2 => k_mem); (case k4 => k_is); (case k5 => k_is); (case k6 => k_is); (case k7 => k_is); (case hA => assumption); (case hl => with_unfolding_all rfl); (case k9 => k_handed); k_whole)))
  k_with "setAttr ref" => ((k_here; k_dflt (refine' set_attr_K ?k1 ?k2 ?k3 ?h1 ?h2 ?k4 ?k5 ?k6 ?k7 ?U ?hA ?hl ?z ?_; (case k1 => k_asm); (case k2 => k_asm); (case k3 => k_asm); (case h1 => k_mem); (case h2 => k_mem); (case k4 => k_is); (case k5 => k_is); (case k6 => k_is); (case k7 => k_is); (case U => k_updF); (case hA => assumption); (case hl => with_unfolding_all rfl); (case z => omega); k_whole; intro h' es' F' N' hA' hz'; (try dsimp only at N'))))
  k_with "compareOp Lt int int" => (first | refine lt_b true (decide_eq_true (by omega)) ?_ | refine lt_b false (decide_eq_false (by omega)) ?_)
  k_with "compareOp Gt int int" => (first | refine gt_b true (decide_eq_true (by omega)) ?_ | refine gt_b false (decide_eq_false (by omega)) ?_)
  k_with "compareOp GtE int int" => (first | refine ge_b true (decide_eq_true (by omega)) ?_ | refine ge_b false (decide_eq_false (by omega)) ?_)
  k_with "compareOp Eq int int" => (first | refine eqi_b true (beq_iff_eq.mpr (by omega)) ?_ | refine eqi_b false (beq_eq_false_iff_ne.mpr (by omega)) ?_)
  k_with "compareOp Eq str str" => (refine eqs_b _ (by assumption) ?_)
  k_with "compareOp LtE str str" => (refine les_b _ (by assumption) ?_)
  k_with "exec While BoolOp" => ((k_here; k_dflt (refine whl_start 100 ?_)))
  trivial
set_option hygiene false in



theorem lt_b {prog : Program} {w : World} {A : Around} {E Q : Value → Shared → Prop} {s : Shared} {a b : Int} {t u : Tok} (r : Bool) (e : decide (a < b) = r) (h : Q (.bool r) s) : wpAny (model prog w) A (compareOp .Lt (.int a t) (.int b u)) Q E s := P.lt_int (by rw [e]; exact h)
theorem gt_b {prog : Program} {w : World} {A : Around} {E Q : Value → Shared → Prop} {s : Shared} {a b : Int} {t u : Tok} (r : Bool) (e : decide (a > b) = r) (h : Q (.bool r) s) : wpAny (model prog w) A (compareOp .Gt (.int a t) (.int b u)) Q E s := P.gt_int (by rw [e]; exact h)
theorem ge_b {prog : Program} {w : World} {A : Around} {E Q : Value → Shared → Prop} {s : Shared} {a b : Int} {t u : Tok} (r : Bool) (e : decide (a ≥ b) = r) (h : Q (.bool r) s) : wpAny (model prog w) A (compareOp .GtE (.int a t) (.int b u)) Q E s := P.ge_int (by rw [e]; exact h)
theorem eqi_b {prog : Program} {w : World} {A : Around} {E Q : Value → Shared → Prop} {s : Shared} {a b : Int} {t u : Tok} (r : Bool) (e : (a == b) = r) (h : Q (.bool r) s) : wpAny (model prog w) A (compareOp .Eq (.int a t) (.int b u)) Q E s := eq_int (by rw [e]; exact h)
theorem eqs_b {prog : Program} {w : World} {A : Around} {E Q : Value → Shared → Prop} {s : Shared} {x y : Str} {t u : Tok} (r : Bool) (e : (x == y) = r) (h : Q (.bool r) s) : wpAny (model prog w) A (compareOp .Eq (.str x t) (.str y u)) Q E s := eq_str (by rw [e]; exact h)
theorem les_b {prog : Program} {w : World} {A : Around} {E Q : Value → Shared → Prop} {s : Shared} {x y : Str} {t u : Tok} (r : Bool) (e : (!decide (y.cps.toList < x.cps.toList)) = r) (h : Q (.bool r) s) : wpAny (model prog w) A (compareOp .LtE (.str x t) (.str y u)) Q E s := P.le_str (by rw [e]; exact h)


section
variable {w : World} {mean : ExcName → Option Value} {mg mb : Str → Option Value} {dp un : Nat} {gd : Option (List Code)} {cn : Str} {cs : Scope} {a : Addr} {ccd : Value} {cl : List (Str × Addr)} {outer : List Env} {A₀ : Around} {base h₀ : Heap} {L : Addr} {m : Str → Option Value} {s : Shared} {Q E : Value → Shared → Prop} {news news' : List (Addr × Obj)}
theorem num_G {row x : Str} {d : Int} {t : Tok}
    (B : Below A₀ base outer h₀) (F : Fr h₀ L s.heap m) (X : (hd.heap_39 w.params).In h₀) (N : News h₀ L s.heap news)
    (T : Top hd.view_39 (looseW hd.view_39 [Str.ofString "BasicError"]) mean mg mb h₀) (hk : cs.kind = .function)
    (hd : dp + 1 < recursionLimit) (_hu : un + 8 < cLine)
    (hd0 : 0 ≤ d) (hd9 : d ≤ 9) (hl2 : row.length ≤ 100)
    (a1 : (Txt.item row 0 == Str.ofString " ") = false)
    (a2 : (!decide ((Txt.item row 0).cps.toList < (Str.ofString "0").cps.toList)) = true) (a3 : (!decide ((Str.ofString "9").cps.toList < (Txt.item row 0).cps.toList)) = true)
    (a4 : (!decide ((Txt.item row (0 + 1)).cps.toList < (Str.ofString "0").cps.toList)) = true) (a5 : (!decide ((Str.ofString "9").cps.toList < (Txt.item row (0 + 1)).cps.toList)) = true)
    (o1 : (((Txt.item row 0).cps.getD 0 0 : Nat) : Int) = 48 + d) (o2 : (((Txt.item row (0 + 1)).cps.getD 0 0 : Nat) : Int) = 48)
    (tail : (row.length = 2 ∧ Txt.slice row (some (0 + 1 + 1)) none = x) ∨ (2 < row.length ∧ (!decide ((Txt.item row (0 + 1 + 1)).cps.toList < (Str.ofString "0").cps.toList)) = false ∧ (Txt.item row (0 + 1 + 1) == Str.ofString " ") = true ∧ Txt.slice row (some (0 + 1 + 1 + 1)) none = x))
    (ret : ∀ (q : Addr) (t t' : Tok) h' tk', Fr h₀ L h' m → News h₀ L h' ((q, tupOf [.int (10 * d) t, .str x t']) :: news) → AllLt q news → Q (.ref q) { s with heap := h', toks := tk' }) :
    wpAny (model PySem.Challenge.rw_pf0005_01.row.prog w) (ktrTop dp un gd cn cs L a ccd cl outer) (call (.ref 58) [.str row t]) Q E s := by
  walk_at "my enter"
  repeat' ((fail_if_success with_reducible show wpAny _ _ (compareOp CmpOp.Lt (Value.int (0 + 1 + 1) _) _) _ _ _); first | (k_unfold; (try dsimp only)) | walk1 | (dsimp only; walk1) | (leave1; walk_say "STEP leave1"; try dsimp only) | fail "no step")
  rcases tail with ⟨b1, b2⟩ | ⟨b1, b2, b3, b4⟩
  · k_steps
    rename_i l1 kF kN Tc kX
    rw [show (10 * (10 * 0 + (((Txt.item row 0).cps.getD 0 0 : Nat) : Int) - 48) + (((Txt.item row (0 + 1)).cps.getD 0 0 : Nat) : Int) - 48) = 10 * d by omega, b2] at kN
    exact ret _ _ _ _ _ kF (news_tail kN) (And.right l1)
  · k_steps
    rename_i l1 kF kN Tc kX
    rw [show (10 * (10 * 0 + (((Txt.item row 0).cps.getD 0 0 : Nat) : Int) - 48) + (((Txt.item row (0 + 1)).cps.getD 0 0 : Nat) : Int) - 48) = 10 * d by omega, b4] at kN
    exact ret _ _ _ _ _ kF (news_tail kN) (And.right l1)
/-- a numbered row: what it is written as -/
def rowS (n : Int) (x : Str) : Str := (Str.ofString (toString n) ++ (if x = Str.ofString "" then Str.ofString "" else Str.ofString " ")) ++ x
theorem num_K {n : Int} {x : Str} {t : Tok} (hn : n ∈ [(10 : Int), 20, 30]) (hx : x ∈ rowW)
    (B : Below A₀ base outer h₀) (F : Fr h₀ L s.heap m) (X : (hd.heap_39 w.params).In h₀) (N : News h₀ L s.heap news)
    (T : Top hd.view_39 (looseW hd.view_39 [Str.ofString "BasicError"]) mean mg mb h₀) (hk : cs.kind = .function)
    (hd : dp + 1 < recursionLimit) (hu : un + 8 < cLine)
    (ret : ∀ (q : Addr) (t t' : Tok) h' tk', Fr h₀ L h' m → News h₀ L h' ((q, tupOf [.int n t, .str x t']) :: news) → AllLt q news → Q (.ref q) { s with heap := h', toks := tk' }) :
    wpAny (model PySem.Challenge.rw_pf0005_01.row.prog w) (ktrTop dp un gd cn cs L a ccd cl outer) (call (.ref 58) [.str (rowS n x) t]) Q E s := by
  have hd1 : ∃ d : Int, n = 10 * d ∧ (d = 1 ∨ d = 2 ∨ d = 3) := by
    simp only [List.mem_cons, List.not_mem_nil, or_false] at hn
    rcases hn with rfl | rfl | rfl
    · exact ⟨1, rfl, .inl rfl⟩
    · exact ⟨2, rfl, .inr (.inl rfl)⟩
    · exact ⟨3, rfl, .inr (.inr rfl)⟩
  obtain ⟨d, rfl, hd3⟩ := hd1
  simp only [rowW, List.mem_cons, List.not_mem_nil, or_false] at hx
  rcases hd3 with rfl | rfl | rfl
  all_goals
    rcases hx with rfl | rfl | rfl | rfl
    all_goals first
      | exact num_G B F X N T hk hd hu (by decide) (by decide) (by decide +kernel) (by decide +kernel) (by decide +kernel) (by decide +kernel) (by decide +kernel) (by decide +kernel) (by decide +kernel) (by decide +kernel) (.inr ⟨by decide +kernel, by decide +kernel, by decide +kernel, by decide +kernel⟩) ret
      | exact num_G B F X N T hk hd hu (by decide) (by decide) (by decide +kernel) (by decide +kernel) (by decide +kernel) (by decide +kernel) (by decide +kernel) (by decide +kernel) (by decide +kernel) (by decide +kernel) (.inl ⟨by decide +kernel, by decide +kernel⟩) ret
end

/-! Load -/
theorem rows_10 : True := by
  k_with_none
  k_with "my enter" => ((refine wpAny_call ?_; k_dflt (refine' code_defG ?k1 ?k2 ?k3 ?k4 ?k5 ?kA ?kF ?kK ?k6 ?k7 ?k8 ?k9 ?kB ?_ ?c2 ?c3 ?c4 ?c5; (case kA => exact rfl); (case kF => exact rfl); (case kK => assumption); (case k1 => k_asm); (case k2 => k_asm); (case k3 => k_asm); (case k4 => k_asm); (case k5 => k_asm); (case k6 => k_is); (case k7 => k_is); (case k8 => ktr_room); (case k9 => exact BindsTo.of_eq rfl); (case c5 => decide); (case kB => exact locs rfl); (case c2 => exact rfl); (case c3 => exact rfl); (case c4 => exact rfl); k_whole; intro g' L' h' FG' F' N' B' X' T' kG'; (try dsimp only); (try k_lift B'); (try k_fold))))
  k_with "my enterC" => ((refine wpAny_call ?_; k_dflt (refine' code_defC ?k1 ?k2 ?k3 ?k4 ?k5 ?kA ?kF ?kK ?k6 ?k7 ?k8 ?k9 ?kB ?kD ?_ ?c2 ?c3 ?c4; (case kA => exact rfl); (case kF => exact rfl); (case kK => assumption); (case k1 => k_asm); (case k2 => k_asm); (case k3 => k_asm); (case k4 => k_asm); (case k5 => k_asm); (case k6 => k_is); (case k7 => k_is); (case k8 => ktr_room); (case k9 => exact BindsTo.of_eq rfl); (case kB => exact rfl); (case kD => decide +kernel); (case c2 => exact rfl); (case c3 => exact rfl); (case c4 => exact rfl); k_whole; intro g' L' h' tk' cells' FG' F' N' Y' B' X' T' l1; (try k_lt l1); (obtain ⟨oc, hE', d1⟩ := CellsAre.one Y'; subst hE'; clear Y'); (try simp only [List.cons_append, List.nil_append] at N'); (try dsimp only); (try k_lift B'); (try k_fold))))
  k_with "ite" => (first | with_reducible refine ite_tt ?_ | with_reducible refine ite_ff ?_)
  k_with "call ref" => ((k_here; k_dflt (refine' kind_K ?k1 ?k2 ?k3 ?k4 ?k5 ?k6 ?k7 ?k8 ?k9 ?ka ?kb ?kc ?kd ?ke ?_; (case k1 => k_asm); (case k2 => k_asm); (case k3 => k_asm); (case k4 => k_asm); (case k5 => k_asm); (case k6 => first | exact rfl | assumption); (case k7 => k_mem); (case k8 => k_asm); (case k9 => k_asm); (case ka => ktr_room); (case kb => ktr_units); (case kc => first | assumption | omega); (case kd => first | assumption | omega); (case ke => first | assumption | exact allStr_nil); k_whole; intro t' h' tk' F' N' cE')))
  k_with "call ref" => ((k_here; k_dflt (refine' isarr_K ?k1 ?k2 ?k3 ?k4 ?k5 ?k6 ?ka ?kb ?kc ?kd ?_; (case k1 => k_asm); (case k2 => k_asm); (case k3 => k_asm); (case k4 => k_asm); (case k5 => k_asm); (case k6 => first | exact rfl | assumption); (case ka => ktr_room); (case kb => ktr_units); (case kc => first | assumption | omega); (case kd => first | assumption | omega); k_whole; intro h' tk' F' N')))
  k_with "call ref" => ((k_here; k_dflt (refine' means_K ?k1 ?k2 ?k3 ?k4 ?k5 ?k6 ?k7 ?k71 ?k72 ?k73 ?k8 ?k9 ?ka ?kb ?kc ?kd ?ke ?_; (case k1 => k_asm); (case k2 => k_asm); (case k3 => k_asm); (case k4 => k_asm); (case k5 => k_asm); (case k6 => first | exact rfl | assumption); (case k71 => k_mem); (case k72 => k_mem); (case k73 => first | assumption | k_get); (case k7 => k_mem); (case k8 => k_asm); (case k9 => k_asm); (case ka => ktr_room); (case kb => ktr_units); (case kc => first | assumption | omega | exact (hkl _ (by assumption)).1); (case kd => first | assumption | omega | exact (hkl _ (by assumption)).2); (case ke => first | assumption | exact allStr_nil); k_whole; intro h' tk' F' N')))
  k_with "getAttr ref" => ((k_here; k_dflt (refine' get_own ?F ?X ?I ?g ?h ?a ?n ?l ?v ?_; (case F => k_asm); (case X => k_asm); (case I => k_inst); (case g => k_is); (case h => k_is); (case a => k_is); (case n => k_is); (case l => assumption); (case v => k_handed); k_whole)))
  k_with "exec Assign cons ListComp" => ((k_here; k_dflt (refine LCt.Assign_ListComp_T (F₀ := by k_asm) (by rfl) (by with_unfolding_all rfl) (by with_unfolding_all rfl) (by decide) (by rfl) (by decide) (by rfl) (by rfl) (by rfl) ?_)))
  k_with "eval ListComp" => ((k_here; k_dflt (refine LCt.ListComp_T (F₀ := by k_asm) (by with_unfolding_all rfl) (by decide) (by rfl) (by decide) (by rfl) ?_)))
  k_with "compareOp In str ref" => ((k_here; k_dflt (refine kda_in (knd := PySem.strKind _ _) (by k_asm) (by k_mem) (by k_asm) (by k_asm) (strKind_is _ _ _ _) ((valueAt _ _).isSome) (by rfl) ?_)))
  k_with "subscriptTail" => ((k_here; (with_reducible show wpAny _ _ (subscriptTail _ _ (Value.ref _) (Value.str _ _)) _ _ _); (obtain ⟨v9, hv9⟩ := Option.isSome_iff_exists.mp (by assumption : (valueAt _ _).isSome = true)); k_dflt (refine kda_item (knd := PySem.strKind _ _) (by k_asm) (by k_mem) (by k_asm) (strKind_is _ _ _ _) hv9 ?_)))
  k_with "call type:dict" => ((k_here; (with_reducible show wpAny _ _ (call (Value.type "dict") [Value.ref _]) _ _ _); k_dflt (refine' dict_pairs_K ?kh ?k1 ?k2 ?k3 ?k4 ?k5 ?k6 ?_; (case kh => exact rfl); (case k1 => k_asm); (case k2 => k_asm); (case k3 => exact modules_low (Top.nolimit (by k_asm))); (case k4 => k_mem); (case k5 => assumption); (case k6 => omega); k_whole; intro d' o' h' tk' F' N' l1 lo' hd')))
  k_with "call type:list" => ((k_here; (with_reducible show wpAny _ _ (call (Value.type "list") [Value.ref _]) _ _ _); k_dflt (refine' list_items_K ?kh ?k1 ?k2 ?k3 ?k4 ?k5 ?k6 ?_; (case kh => exact rfl); (case k1 => k_asm); (case k2 => k_asm); (case k3 => k_mem); (case k4 => k_mem); (case k5 => k_asm); (case k6 => omega); k_whole; intro lS its9 c9 extra9 h' tk' F' N' hP9)))
  k_with "call type:dict" => ((k_here; (with_reducible show wpAny _ _ (call (Value.type "dict") [Value.ref _]) _ _ _); k_dflt (refine' dict_pairs_drop ?kh ?k1 ?k2 ?k3 ?k4 ?k5 ?k6 ?_; (case kh => exact rfl); (case k1 => k_asm); (case k2 => k_asm); (case k3 => exact modules_low (Top.nolimit (by k_asm))); (case k4 => exact rfl); (case k5 => assumption); (case k6 => omega); k_whole; intro dK oK h' tk' F' N' lK loK hdK; (try simp only [AllLt, and_true] at lK))))
  k_with "call ref" => ((k_here; k_dflt (refine' take_F ?k1 ?k2 ?k3 ?k4 ?k5 ?k6 ?k7 ?k8 ?k9 ?ka ?kb ?kc ?kd ?ke ?kf ?kg ?kh ?_; (case k1 => k_asm); (case k2 => k_asm); (case k3 => k_asm); (case k4 => k_asm); (case k5 => k_asm); (case k6 => first | exact rfl | assumption); (case k7 => k_updF); (case k8 => k_mem); (case k9 => assumption); (case ka => omega); (case kb => omega); (case kc => decide); (case kd => decide); (case ke => omega); (case kf => ktr_room); (case kg => ktr_units); (case kh => assumption); k_whole; intro rr tr tp h' tk' hr0 hr1 F' N'; (try dsimp only at N'))))
  k_with "call ref" => ((k_here; k_dflt (refine' own_K ?k1 ?k2 ?k3 ?k4 ?k5 ?k6 ?k7 ?k8 ?k9 ?ka ?kb ?kc ?kd ?ke ?_; (case k1 => k_asm); (case k2 => k_asm); (case k3 => k_asm); (case k4 => k_asm); (case k5 => k_asm); (case k6 => first | exact rfl | assumption); (case k7 => k_mem); (case k8 => k_asm); (case k9 => k_asm); (case ka => ktr_room); (case kb => ktr_units); (case kc => first | assumption | omega | decide); (case kd => first | assumption | omega | decide); (case ke => first | assumption | exact allStr_nil); k_whole; intro qo to h' tk' F' N' l1; (try simp only [AllLt, and_true] at l1))))
  k_with "cj" => (with_reducible (first | assumption | exact And.right (by first | assumption | exact And.right (by first | assumption | exact And.right (by first | assumption | exact And.right (by first | assumption | exact And.right (by first | assumption | exact And.right (by first | assumption | exact And.right (by first | assumption | exact And.right (by first | assumption | exact And.right (by first | assumption | exact And.right (by first | assumption | exact And.right (by first | assumption | exact And.right (by first | assumption | exact And.right (by first | assumption | exact And.right (by first | assumption | exact And.right (by first | assumption | exact And.right (by first | assumption | exact And.right (by first | assumption | exact And.right (by first | assumption | exact And.right (by first | assumption | exact And.right (by first | assumption | exact And.right (by first | assumption | exact And.right (by first | assumption | exact And.right (by first | assumption | exact And.right (by first | assumption | exact And.right (by first | assumption | exact And.right (by assumption))))))))))))))))))))))))))))
  k_with "ne" => (first | exact Nat.ne_of_gt (And.left (by k_extra "cj")) | exact Nat.ne_of_lt (And.left (by k_extra "cj")) | exact Nat.ne_of_gt (by with_reducible assumption) | exact Nat.ne_of_lt (by with_reducible assumption) | exact Nat.ne_of_gt (by k_extra "cj") | exact Nat.ne_of_lt (by k_extra "cj") | (refine neN ?_; (try dsimp only); omega))
  k_with "all" => (first | exact List.forall_mem_nil _ | (refine' List.forall_mem_cons.mpr ⟨?a, ?b⟩; (case a => first | exact Nat.ne_of_lt (And.left (by k_extra "cj")) | k_ne); (case b => k_all)) | assumption | exact allLt_ne (by k_extra "cj") | exact gt_ne (by assumption) (by first | assumption | omega) | fail "k_all")
  k_with "call ref" => ((k_here; k_dflt (refine' own3_K ?k1 ?k2 ?k3 ?k4 ?k5 ?k6 ?k7 ?k8 ?k9 ?ka ?kb ?kc ?kd ?ke ?_ ?_ ?_; (case k1 => k_asm); (case k2 => k_asm); (case k3 => k_asm); (case k4 => k_asm); (case k5 => k_asm); (case k6 => first | exact rfl | assumption); (case k7 => k_mem); (case k8 => k_asm); (case k9 => k_asm); (case ka => ktr_room); (case kb => ktr_units); (case kc => first | assumption | omega | decide); (case kd => first | assumption | omega | decide); (case ke => first | assumption | exact K3.nil); k_whole; all_goals (intro qo to h' tk' eO9 F' N' l1; (try simp only [AllLt, and_true] at l1)))))
  k_with "eval Dict" => ((k_here; k_dflt (first
        | (refine' kdn_str ?q ?F ?N ?b ?a ?l ?e ?n ?_; (case q => rfl); (case F => k_asm); (case N => first | k_asm | exact News.nil); (case b => exact Top.nolimit (by k_asm)); (case a => rfl); (case l => rfl); (case e => exact List.cons_ne_nil _ _); (case n => exact Nat.le_of_ble_eq_true rfl))
        | (refine' kdn_int ?q ?F ?N ?b ?a ?l ?e ?n ?_; (case q => rfl); (case F => k_asm); (case N => first | k_asm | exact News.nil); (case b => exact Top.nolimit (by k_asm)); (case a => rfl); (case l => rfl); (case e => exact List.cons_ne_nil _ _); (case n => exact Nat.le_of_ble_eq_true rfl))); intro d' h' o' F' N' l1 lo' hd'; (try k_lt l1)))
  k_with "setItem ref str" => ((k_here; k_dflt (refine' kda_set (knd := PySem.strKind _ _) ?F ?N ?U ?d (strKind_is _ _ _ _) ?z ?_; (case F => k_asm); (case N => k_asm); (case U => k_updF); (case d => assumption); (case z => rw [sizeLine_eq]; omega)); intro h' o' F' N' hdS'; (try dsimp only at N')))
  k_with "my sub" => (((repeat (refine List.forall_mem_cons.mpr ⟨by k_mem, ?_⟩)); first | exact List.forall_mem_nil _ | (intro p hp; repeat (first | exact hp | refine List.Mem.tail _ ?_))))
  k_with "execs cons" => (first | (k_here; k_gentoks) | ((with_reducible refine wpAny_execs_cons ?_); try dsimp only))
  k_with "assignInOrder" => ((dsimp only; walk_at "assignInOrder"))
  k_with "enter" => (first
        | (refine' code_def ?k1 ?k2 ?k3 ?k4 ?k5 ?kA ?kF ?kK ?k6 ?k7 ?k8 ?k9 ?kB ?_ ?c2 ?c3 ?c4 ?c5; (case kA => exact rfl); (case kF => exact rfl); (case kK => first | exact rfl | assumption); (case k1 => k_asm); (case k2 => k_asm); (case k3 => k_asm); (case k4 => k_asm); (case k5 => k_asm); (case k6 => k_is); (case k7 => k_is); (case k8 => ktr_room); (case k9 => first | exact BindsTo.of_eq rfl | exact binds_K (by k_in) rfl (by k_is) rfl rfl rfl | fail "k_enter: no rule for these arguments"); (case c5 => decide); (case kB => exact locs rfl); (case c2 => exact rfl); (case c3 => exact rfl); (case c4 => exact rfl); k_whole; intro g' L' h' FG' F' N' B' X' T'; (try dsimp only); (try k_lift B'); (try k_fold)))
  k_with "call type:list" => ((k_here; (with_reducible show wpAny _ _ (call (Value.type "list") [Value.ref _]) _ _ _); k_dflt (refine' list_keys_K ?kh ?k1 ?k2 ?k3 ?k4 ?k5 ?k6 ?_; (case kh => exact rfl); (case k1 => k_asm); (case k2 => k_asm); (case k3 => k_mem); (case k4 => assumption); (case k5 => k_asm); (case k6 => omega); k_whole; intro lN2 cN2 vsN h' tk' hvN F' N' lNN; (try simp only [AllLt, and_true] at lNN))))
  k_with "binaryOp Add ref ref" => ((k_here; (with_reducible show wpAny _ _ (binaryOp _ (Value.ref _) (Value.ref _)) _ _ _); k_dflt (refine' add_lists_K ?F ?N ?a ?b ?z ?_; (case F => k_asm); (case N => k_asm); (case a => k_mem); (case b => k_mem); (case z => walk_at "my len")); intro D' h' F' N' l1; (try simp only [AllLt, and_true] at l1)))
  k_with "my len" => (((have hLn9 := strsAre_len hvN); (simp only [List.length_append, List.length_map, List.length_cons, List.length_nil] at *); omega))
  k_with "exec Assign cons ListComp" => ((k_here; (with_reducible show wpAny _ _ (exec (.Assign _ (.ListComp _ [⟨_, .Attribute _ _ _, _, _⟩] _ _) _) _) _ _ _); k_dflt (refine Assign_ListComp_TD (knd := PySem.strKind _ _) (by k_asm) (by rfl) (by with_unfolding_all rfl) (by with_unfolding_all rfl) (by decide) (by rfl) (by decide) (by rfl) (by rfl) (by rfl) ?_)))
  k_with "compareOp In str ref" => ((k_here; k_dflt (refine in_words_K (by k_asm) (by k_mem) hWd ?_)))
  k_with "getItem ref str" => ((k_here; k_dflt (refine kdt_getItem (knd := PySem.strKind _ _) (by k_asm) (by k_mem) (by k_asm) (strKind_is _ _ _ _) (by assumption) ?_)))
  k_with "my go" => (repeat' ((fail_if_success with_reducible refine strRest_at ?_); (fail_if_success with_reducible refine itemsRest_at ?_); first | (k_unfold; (try dsimp only)) | walk1 | (dsimp only; walk1) | fail "no step"))
  k_with "getAttr ref" => ((k_here; k_dflt (refine' get_attr_K ?k1 ?k2 ?k3 ?h1 ?h2 ?k4 ?k5 ?k6 ?k7 ?hA ?hl ?k9 ?_; (case k1 => k_asm); (case k2 => k_asm); (case k3 => k_asm); (case h1 => k_mem); (case h2 => k_mem); (case k4 => k_is); (case k5 => k_is); (case k6 => k_is); (case k7 => k_is); (case hA => assumption); (case hl => with_unfolding_all rfl); (case k9 => k_handed); k_whole)))
  k_with "setAttr ref" => ((k_here; k_dflt (refine' set_attr_K ?k1 ?k2 ?k3 ?h1 ?h2 ?k4 ?k5 ?k6 ?k7 ?U ?hA ?hl ?z ?_; (case k1 => k_asm); (case k2 => k_asm); (case k3 => k_asm); (case h1 => k_mem); (case h2 => k_mem); (case k4 => k_is); (case k5 => k_is); (case k6 => k_is); (case k7 => k_is); (case U => k_updF); (case hA => assumption); (case hl => with_unfolding_all rfl); (case z => omega); k_whole; intro h' es' F' N' hA' hz'; (try dsimp only at N'))))
  k_with "exec For Name Call cons nil" => ((k_here; (rename Fr _ _ _ _ => lF'); (with_unfolding_all refine' For_turns lF' ?_; k_whole)))
  k_with "call builtin:str.rstrip" => ((refine KXw.rstripChars (by assumption) (by rw [sizeLine_eq]; omega) ?_; intro t9 k9))
  k_with "compareOp Eq str str" => (refine eqs_b _ (by assumption) ?_)
  k_with "call ref" => ((k_here; (with_reducible show wpAny _ _ (call (Value.ref 58) _) _ _ _); k_dflt (refine' num_K ?g1 ?g2 ?k1 ?k2 ?k3 ?k4 ?k5 ?k6 ?ka ?kb ?_; (case g1 => assumption); (case g2 => assumption); (case k1 => k_asm); (case k2 => k_asm); (case k3 => k_asm); (case k4 => k_asm); (case k5 => k_asm); (case k6 => first | exact rfl | assumption); (case ka => ktr_room); (case kb => ktr_units); k_whole; intro qo to to' h' tk' F' N' l1; (try simp only [AllLt, and_true] at l1))))
  k_with "call builtin:dict.pop" => ((k_here; k_dflt (refine' pop_int ?F ?N ?U ?d ?lo ?z ?_; (case F => k_asm); (case N => k_asm); (case U => k_updF); (case d => assumption); (case lo => assumption); (case z => omega)); intro v' h' o' tk' F' N' hdS'; (try dsimp only at N')))
  k_with "setItem ref int" => ((k_here; k_dflt (refine' kda_set (knd := PySem.intKind _ _) ?F ?N ?U ?d (intKind_is _ _ _ _) ?z ?_; (case F => k_asm); (case N => k_asm); (case U => k_updF); (case d => assumption); (case z => rw [sizeLine_eq]; omega)); intro h' o' F' N' hdS'; (try dsimp only at N')))
  trivial
set_option hygiene false in





theorem news_tail' {h₀ h : Heap} {L : Addr} {q : Addr × Obj} {news : List (Addr × Obj)} (N : News h₀ L h (q :: news)) : News h₀ L h news := fun r hr => N r (.tail _ hr)
theorem take_act {as : List (Option (Int × Str))} {i : Nat} {a : Option (Int × Str)} (h : as[i]? = some a) : (as.take (i + 1)).foldl actA [] = actA ((as.take i).foldl actA []) a := by
  rw [List.take_add_one, h, List.foldl_append]; rfl
theorem sep_facts {r : Str} (h : r ∈ sepW) : r.length ≤ 100 ∧ (Txt.rstripChars r (Str.ofString "\r")).length ≤ 100 ∧ (Txt.stripChars (Txt.rstripChars r (Str.ofString "\r")) (Str.ofString " ") == Str.ofString "") = true := by
  simp only [sepW, List.mem_cons, List.not_mem_nil, or_false] at h
  rcases h with rfl | rfl | rfl | rfl
  all_goals exact ⟨by decide +kernel, by decide +kernel, by decide +kernel⟩
theorem top_facts {n : Int} {x e : Str} (hn : n ∈ [(10 : Int), 20, 30]) (hx : x ∈ rowW) (he : e ∈ endW) : (topS n x e).length ≤ 100 ∧ Txt.rstripChars (topS n x e) (Str.ofString "\r") = rowS n x ∧ (rowS n x).length ≤ 100 ∧ (Txt.stripChars (rowS n x) (Str.ofString " ") == Str.ofString "") = false := by
  simp only [rowW, endW, List.mem_cons, List.not_mem_nil, or_false] at hn hx he
  rcases hn with rfl | rfl | rfl
  all_goals
    rcases hx with rfl | rfl | rfl | rfl
    all_goals
      rcases he with rfl | rfl | rfl
      all_goals exact ⟨by decide +kernel, by decide +kernel, by decide +kernel, by decide +kernel⟩
theorem rest_facts {x : Str} (hx : x ∈ rowW) : x.length ≤ 100 ∧ (Txt.stripChars x (Str.ofString " ") == Str.ofString "") = decide (x = Str.ofString "") := by
  simp only [rowW, List.mem_cons, List.not_mem_nil, or_false] at hx
  rcases hx with rfl | rfl | rfl | rfl
  all_goals exact ⟨by decide +kernel, by decide +kernel⟩
section
variable {w : World} {mean : ExcName → Option Value} {mg mb : Str → Option Value} {dp un : Nat} {gd : Option (List Code)} {cn : Str} {cs : Scope} {a : Addr} {ccd : Value} {cl : List (Str × Addr)} {outer : List Env} {A₀ : Around} {base h₀ : Heap} {L : Addr} {m : Str → Option Value} {s : Shared} {Q E : Value → Shared → Prop} {news news' : List (Addr × Obj)}
theorem loaded_K {txt : Str} {rs : List Str} {as : List (Option (Int × Str))} {t : Tok}
    (B : Below A₀ base outer h₀) (F : Fr h₀ L s.heap m) (X : (hd.heap_39 w.params).In h₀) (N : News h₀ L s.heap news)
    (T : Top hd.view_39 (looseW hd.view_39 [Str.ofString "BasicError"]) mean mg mb h₀) (hk : cs.kind = .function)
    (hd : dp + 2 < recursionLimit) (_hu : un + 16 < cLine)
    (hsp : Txt.split txt (Str.ofString "\n") = rs) (hrs : OkRows rs as) (hlen : rs.length ≤ 8) (hl2 : txt.length ≤ 1000)
    (ret : ∀ (d : Addr) (o : Obj) (kvs : List (Int × Value)) h' tk', Fr h₀ L h' m → News h₀ L h' ((d, o) :: news) → AllLt d news → (d == sysModules) = false → o.IsDictOf (PySem.intKind PySem.Challenge.rw_pf0005_01.row.prog w) kvs → SameV kvs (as.foldl actA []) → Q (.ref d) { s with heap := h', toks := tk' }) :
    wpAny (model PySem.Challenge.rw_pf0005_01.row.prog w) (ktrTop dp un gd cn cs L a ccd cl outer) (call (.ref 65) [.str txt t]) Q E s := by
  walk_at "my enter"
  walk_at "my go"
  rename_i d1 h1 o1 l1 lo1 hs1 fs1 hi1 fi1 h2 F2 N2 ls h3 k3 a1 a2 a3 a4 a5 a6
  have hw : StrsAre (strValues ls) rs := by rw [← hsp, ← a1]; exact a2
  have hvl := strsAre_len hw
  dsimp only at a4 a6 ⊢
  have lz1 : AllLt d1 news := allLt_of l1
  have lz2 : @LT.lt Nat _ d1 h2.objs.size := (by k_mem : (d1, o1) ∈ [(d1, o1)]) |> fun _ => Heap.lt_size (N2 (d1, o1) (.head _)).1
  have lz3 : ∀ p ∈ news, @LT.lt Nat _ p.1 h2.objs.size := fun p hp => Heap.lt_size (N2 p (.tail _ hp)).1
  clear a1 a2 a3 a4 hs1 fs1 fi1 F2 N2
  generalize strValues ls = vs at hw hvl a6 ⊢
  generalize h2.objs.size = lA at a6 lI lz2 lz3 ⊢
  refine items_inv4 (Str.ofString "ended") (Str.ofString "row") (Str.ofString "line") (Str.ofString "rest") (fun i nw => ∃ (oD : Obj) (kvs : List (Int × Value)), nw = (lA, W.listOf vs.toArray 0) :: (d1, oD) :: news ∧ oD.IsDictOf (PySem.intKind PySem.Challenge.rw_pf0005_01.row.prog w) kvs ∧ SameV kvs ((as.take i).foldl actA []) ∧ kvs.length ≤ i) ?_ ?_ ⟨o1, [], rfl, hi1, .nil, Nat.le_refl _⟩
  · intro i it nw hi hJ u v h tk hv2 F0
    obtain ⟨oD, kvs, rfl, hD, hS, hkl⟩ := hJ
    rw [List.getElem?_map] at hi
    obtain ⟨v', hvi, rfl⟩ := Option.map_eq_some_iff.mp hi
    obtain rfl : v = v' := hv2
    obtain ⟨r, tr, rfl, hri⟩ := strsAre_at hw hvi
    obtain ⟨act, hai, hok⟩ := hrs.at hri
    have hi8 : i < 8 := by have := (List.getElem?_eq_some_iff.mp hri).1; omega
    intro oe ce N0
    simp only [List.cons_append, List.nil_append] at N0
    cases hok with
    | sep r hsep =>
      obtain ⟨hr1, hr2, hr3⟩ := sep_facts hsep
      have hr4 : Txt.rstripChars r (Str.ofString "\r") = Txt.rstripChars r (Str.ofString "\r") := rfl
      walk_at "my go"
      refine' ⟨_, _, _, (lA, W.listOf vs.toArray 0) :: (d1, _) :: news, rfl, ?F, ?N, ?off, ?kp, ?fr, ⟨_, _, rfl, ?d, ?s, ?l⟩⟩
      case F => assumption
      case N => exact news_sub (by assumption) (by walk_at "my sub")
      case off => exact off_1 (by k_all)
      case kp => exact ⟨.head _, trivial⟩
      case fr => (intro y h1 h2 h3 h4; simp only [h1, h2, h3, h4, if_false] <;> rfl)
      case d => exact hD
      case s => rw [take_act hai]; exact hS
      case l => omega
    | top n x e hn hx he =>
      obtain ⟨hr1, hr2, hr3, hr4⟩ := top_facts hn hx he
      obtain ⟨hr5, hr6⟩ := rest_facts hx
      by_cases hx0 : x = Str.ofString ""
      · rw [decide_eq_true hx0] at hr6
        walk_at "my go"
        refine' ⟨_, _, _, (lA, W.listOf vs.toArray 0) :: (d1, _) :: news, rfl, ?F, ?N, ?off, ?kp, ?fr, ⟨_, _, rfl, ?d, ?s, ?l⟩⟩
        case F => assumption
        case N => exact news_sub (by assumption) (by walk_at "my sub")
        case off => exact off_1 (by k_all)
        case kp => exact ⟨.head _, trivial⟩
        case fr => (intro y h1 h2 h3 h4; simp only [h1, h2, h3, h4, if_false] <;> rfl)
        case d => assumption
        case s => rw [take_act hai]; show SameV _ (if x = Str.ofString "" then _ else _); rw [if_pos hx0]; exact hS.without n
        case l => exact Nat.le_trans (without_len _ _) (by omega)
      · rw [decide_eq_false hx0] at hr6
        walk_at "my go"
        refine' ⟨_, _, _, (lA, W.listOf vs.toArray 0) :: (d1, _) :: news, rfl, ?F, ?N, ?off, ?kp, ?fr, ⟨_, _, rfl, ?d, ?s, ?l⟩⟩
        case F => assumption
        case N => exact news_sub (by assumption) (by walk_at "my sub")
        case off => exact off_1 (by k_all)
        case kp => exact ⟨.head _, trivial⟩
        case fr => (intro y h1 h2 h3 h4; simp only [h1, h2, h3, h4, if_false] <;> rfl)
        case d => assumption
        case s => rw [take_act hai]; show SameV _ (if x = Str.ofString "" then _ else _); rw [if_neg hx0]; exact hS.stored n x _ _
        case l => exact Nat.le_trans (stored_len _ _ _) (by omega)
  · intro nw hJ u h tk F0 N0
    obtain ⟨oD, kvs, rfl, hD, hS, hkl⟩ := hJ
    walk_at "my go"
    rename_i tk9 kF kN Tc9 kX
    refine ret _ _ _ _ _ kF (news_tail' kN) lz1 lo1 hD ?_
    rwa [List.length_map, hvl, hrs.len, List.take_length] at hS
end

/-! Text -/
set_option hygiene false in
local macro_rules | `(tactic| walk_at "pyIter ref") => `(tactic| (k_here; (with_reducible show wpAny _ _ (pyIter (Value.ref _)) (fun it s₂ => TurnsAt _ _ _ _ _ _ _ _ _ it s₂) _ _); k_dflt (first
  | (refine' iter_tupTurns ?h ?F ?N ?m ?c ?d ?_; (case h => rfl); (case F => k_asm); (case N => k_asm); (case m => k_mem); (case c => rfl); (case d => rfl))
  | (refine' iter_listTurns ?h ?F ?N ?m ?c ?d ?_; (case h => rfl); (case F => k_asm); (case N => k_asm); (case m => k_mem); (case c => rfl); (case d => rfl))); intro iI lI; (try k_lt lI)))
set_option hygiene false in
local macro_rules | `(tactic| walk_at "pyIter ref") => `(tactic| ((with_reducible show wpAny _ _ (pyIter (Value.ref _)) (fun it s₂ => LoopAtV _ _ _ _ _ _ _ _ _ it s₂) _ _); ((rename Fr _ _ _ _ => lF'); (rename News _ _ _ _ => lN'); (with_unfolding_all refine iter_rangeUnr (by rfl) (by assumption) (range_small (by omega) (by omega)).1 (range_small (by omega) (by omega)).2 lF' lN' ?_); clear lF' lN'; intro iI lI; (try k_lt lI))))
theorem rows_11 : True := by
  k_with_none
  k_with "my enter" => ((refine wpAny_call ?_; k_dflt (refine' code_defG ?k1 ?k2 ?k3 ?k4 ?k5 ?kA ?kF ?kK ?k6 ?k7 ?k8 ?k9 ?kB ?_ ?c2 ?c3 ?c4 ?c5; (case kA => exact rfl); (case kF => exact rfl); (case kK => assumption); (case k1 => k_asm); (case k2 => k_asm); (case k3 => k_asm); (case k4 => k_asm); (case k5 => k_asm); (case k6 => k_is); (case k7 => k_is); (case k8 => ktr_room); (case k9 => exact BindsTo.of_eq rfl); (case c5 => decide); (case kB => exact locs rfl); (case c2 => exact rfl); (case c3 => exact rfl); (case c4 => exact rfl); k_whole; intro g' L' h' FG' F' N' B' X' T' kG'; (try dsimp only); (try k_lift B'); (try k_fold))))
  k_with "my enterC" => ((refine wpAny_call ?_; k_dflt (refine' code_defC ?k1 ?k2 ?k3 ?k4 ?k5 ?kA ?kF ?kK ?k6 ?k7 ?k8 ?k9 ?kB ?kD ?_ ?c2 ?c3 ?c4; (case kA => exact rfl); (case kF => exact rfl); (case kK => assumption); (case k1 => k_asm); (case k2 => k_asm); (case k3 => k_asm); (case k4 => k_asm); (case k5 => k_asm); (case k6 => k_is); (case k7 => k_is); (case k8 => ktr_room); (case k9 => exact BindsTo.of_eq rfl); (case kB => exact rfl); (case kD => decide +kernel); (case c2 => exact rfl); (case c3 => exact rfl); (case c4 => exact rfl); k_whole; intro g' L' h' tk' cells' FG' F' N' Y' B' X' T' l1; (try k_lt l1); (obtain ⟨oc, hE', d1⟩ := CellsAre.one Y'; subst hE'; clear Y'); (try simp only [List.cons_append, List.nil_append] at N'); (try dsimp only); (try k_lift B'); (try k_fold))))
  k_with "ite" => (first | with_reducible refine ite_tt ?_ | with_reducible refine ite_ff ?_)
  k_with "call ref" => ((k_here; k_dflt (refine' kind_K ?k1 ?k2 ?k3 ?k4 ?k5 ?k6 ?k7 ?k8 ?k9 ?ka ?kb ?kc ?kd ?ke ?_; (case k1 => k_asm); (case k2 => k_asm); (case k3 => k_asm); (case k4 => k_asm); (case k5 => k_asm); (case k6 => first | exact rfl | assumption); (case k7 => k_mem); (case k8 => k_asm); (case k9 => k_asm); (case ka => ktr_room); (case kb => ktr_units); (case kc => first | assumption | omega); (case kd => first | assumption | omega); (case ke => first | assumption | exact allStr_nil); k_whole; intro t' h' tk' F' N' cE')))
  k_with "call ref" => ((k_here; k_dflt (refine' isarr_K ?k1 ?k2 ?k3 ?k4 ?k5 ?k6 ?ka ?kb ?kc ?kd ?_; (case k1 => k_asm); (case k2 => k_asm); (case k3 => k_asm); (case k4 => k_asm); (case k5 => k_asm); (case k6 => first | exact rfl | assumption); (case ka => ktr_room); (case kb => ktr_units); (case kc => first | assumption | omega); (case kd => first | assumption | omega); k_whole; intro h' tk' F' N')))
  k_with "call ref" => ((k_here; k_dflt (refine' means_K ?k1 ?k2 ?k3 ?k4 ?k5 ?k6 ?k7 ?k71 ?k72 ?k73 ?k8 ?k9 ?ka ?kb ?kc ?kd ?ke ?_; (case k1 => k_asm); (case k2 => k_asm); (case k3 => k_asm); (case k4 => k_asm); (case k5 => k_asm); (case k6 => first | exact rfl | assumption); (case k71 => k_mem); (case k72 => k_mem); (case k73 => first | assumption | k_get); (case k7 => k_mem); (case k8 => k_asm); (case k9 => k_asm); (case ka => ktr_room); (case kb => ktr_units); (case kc => first | assumption | omega | exact (hkl _ (by assumption)).1); (case kd => first | assumption | omega | exact (hkl _ (by assumption)).2); (case ke => first | assumption | exact allStr_nil); k_whole; intro h' tk' F' N')))
  k_with "getAttr ref" => ((k_here; k_dflt (refine' get_own ?F ?X ?I ?g ?h ?a ?n ?l ?v ?_; (case F => k_asm); (case X => k_asm); (case I => k_inst); (case g => k_is); (case h => k_is); (case a => k_is); (case n => k_is); (case l => assumption); (case v => k_handed); k_whole)))
  k_with "exec Assign cons ListComp" => ((k_here; k_dflt (refine LCt.Assign_ListComp_T (F₀ := by k_asm) (by rfl) (by with_unfolding_all rfl) (by with_unfolding_all rfl) (by decide) (by rfl) (by decide) (by rfl) (by rfl) (by rfl) ?_)))
  k_with "eval ListComp" => ((k_here; k_dflt (refine LCt.ListComp_T (F₀ := by k_asm) (by with_unfolding_all rfl) (by decide) (by rfl) (by decide) (by rfl) ?_)))
  k_with "compareOp In str ref" => ((k_here; k_dflt (refine kda_in (knd := PySem.strKind _ _) (by k_asm) (by k_mem) (by k_asm) (by k_asm) (strKind_is _ _ _ _) ((valueAt _ _).isSome) (by rfl) ?_)))
  k_with "subscriptTail" => ((k_here; (with_reducible show wpAny _ _ (subscriptTail _ _ (Value.ref _) (Value.str _ _)) _ _ _); (obtain ⟨v9, hv9⟩ := Option.isSome_iff_exists.mp (by assumption : (valueAt _ _).isSome = true)); k_dflt (refine kda_item (knd := PySem.strKind _ _) (by k_asm) (by k_mem) (by k_asm) (strKind_is _ _ _ _) hv9 ?_)))
  k_with "call type:dict" => ((k_here; (with_reducible show wpAny _ _ (call (Value.type "dict") [Value.ref _]) _ _ _); k_dflt (refine' dict_pairs_K ?kh ?k1 ?k2 ?k3 ?k4 ?k5 ?k6 ?_; (case kh => exact rfl); (case k1 => k_asm); (case k2 => k_asm); (case k3 => exact modules_low (Top.nolimit (by k_asm))); (case k4 => k_mem); (case k5 => assumption); (case k6 => omega); k_whole; intro d' o' h' tk' F' N' l1 lo' hd')))
  k_with "call type:list" => ((k_here; (with_reducible show wpAny _ _ (call (Value.type "list") [Value.ref _]) _ _ _); k_dflt (refine' list_items_K ?kh ?k1 ?k2 ?k3 ?k4 ?k5 ?k6 ?_; (case kh => exact rfl); (case k1 => k_asm); (case k2 => k_asm); (case k3 => k_mem); (case k4 => k_mem); (case k5 => k_asm); (case k6 => omega); k_whole; intro lS its9 c9 extra9 h' tk' F' N' hP9)))
  k_with "call type:dict" => ((k_here; (with_reducible show wpAny _ _ (call (Value.type "dict") [Value.ref _]) _ _ _); k_dflt (refine' dict_pairs_drop ?kh ?k1 ?k2 ?k3 ?k4 ?k5 ?k6 ?_; (case kh => exact rfl); (case k1 => k_asm); (case k2 => k_asm); (case k3 => exact modules_low (Top.nolimit (by k_asm))); (case k4 => exact rfl); (case k5 => assumption); (case k6 => omega); k_whole; intro dK oK h' tk' F' N' lK loK hdK; (try simp only [AllLt, and_true] at lK))))
  k_with "call ref" => ((k_here; k_dflt (refine' take_F ?k1 ?k2 ?k3 ?k4 ?k5 ?k6 ?k7 ?k8 ?k9 ?ka ?kb ?kc ?kd ?ke ?kf ?kg ?kh ?_; (case k1 => k_asm); (case k2 => k_asm); (case k3 => k_asm); (case k4 => k_asm); (case k5 => k_asm); (case k6 => first | exact rfl | assumption); (case k7 => k_updF); (case k8 => k_mem); (case k9 => assumption); (case ka => omega); (case kb => omega); (case kc => decide); (case kd => decide); (case ke => omega); (case kf => ktr_room); (case kg => ktr_units); (case kh => assumption); k_whole; intro rr tr tp h' tk' hr0 hr1 F' N'; (try dsimp only at N'))))
  k_with "call ref" => ((k_here; k_dflt (refine' own_K ?k1 ?k2 ?k3 ?k4 ?k5 ?k6 ?k7 ?k8 ?k9 ?ka ?kb ?kc ?kd ?ke ?_; (case k1 => k_asm); (case k2 => k_asm); (case k3 => k_asm); (case k4 => k_asm); (case k5 => k_asm); (case k6 => first | exact rfl | assumption); (case k7 => k_mem); (case k8 => k_asm); (case k9 => k_asm); (case ka => ktr_room); (case kb => ktr_units); (case kc => first | assumption | omega | decide); (case kd => first | assumption | omega | decide); (case ke => first | assumption | exact allStr_nil); k_whole; intro qo to h' tk' F' N' l1; (try simp only [AllLt, and_true] at l1))))
  k_with "cj" => (with_reducible (first | assumption | exact And.right (by first | assumption | exact And.right (by first | assumption | exact And.right (by first | assumption | exact And.right (by first | assumption | exact And.right (by first | assumption | exact And.right (by first | assumption | exact And.right (by first | assumption | exact And.right (by first | assumption | exact And.right (by first | assumption | exact And.right (by first | assumption | exact And.right (by first | assumption | exact And.right (by first | assumption | exact And.right (by first | assumption | exact And.right (by first | assumption | exact And.right (by first | assumption | exact And.right (by first | assumption | exact And.right (by first | assumption | exact And.right (by first | assumption | exact And.right (by first | assumption | exact And.right (by first | assumption | exact And.right (by first | assumption | exact And.right (by first | assumption | exact And.right (by first | assumption | exact And.right (by first | assumption | exact And.right (by first | assumption | exact And.right (by assumption))))))))))))))))))))))))))))
  k_with "ne" => (first | exact Nat.ne_of_gt (And.left (by k_extra "cj")) | exact Nat.ne_of_lt (And.left (by k_extra "cj")) | exact Nat.ne_of_gt (by with_reducible assumption) | exact Nat.ne_of_lt (by with_reducible assumption) | exact Nat.ne_of_gt (by k_extra "cj") | exact Nat.ne_of_lt (by k_extra "cj") | (refine neN ?_; (try dsimp only); omega))
  k_with "all" => (first | exact List.forall_mem_nil _ | (refine' List.forall_mem_cons.mpr ⟨?a, ?b⟩; (case a => first | exact Nat.ne_of_lt (And.left (by k_extra "cj")) | k_ne); (case b => k_all)) | assumption | exact allLt_ne (by k_extra "cj") | exact gt_ne (by assumption) (by first | assumption | omega) | fail "k_all")
  k_with "call ref" => ((k_here; k_dflt (refine' own3_K ?k1 ?k2 ?k3 ?k4 ?k5 ?k6 ?k7 ?k8 ?k9 ?ka ?kb ?kc ?kd ?ke ?_ ?_ ?_; (case k1 => k_asm); (case k2 => k_asm); (case k3 => k_asm); (case k4 => k_asm); (case k5 => k_asm); (case k6 => first | exact rfl | assumption); (case k7 => k_mem); (case k8 => k_asm); (case k9 => k_asm); (case ka => ktr_room); (case kb => ktr_units); (case kc => first | assumption | omega | decide); (case kd => first | assumption | omega | decide); (case ke => first | assumption | exact K3.nil); k_whole; all_goals (intro qo to h' tk' eO9 F' N' l1; (try simp only [AllLt, and_true] at l1)))))
  k_with "eval Dict" => ((k_here; k_dflt (first
        | (refine' kdn_str ?q ?F ?N ?b ?a ?l ?e ?n ?_; (case q => rfl); (case F => k_asm); (case N => first | k_asm | exact News.nil); (case b => exact Top.nolimit (by k_asm)); (case a => rfl); (case l => rfl); (case e => exact List.cons_ne_nil _ _); (case n => exact Nat.le_of_ble_eq_true rfl))
        | (refine' kdn_int ?q ?F ?N ?b ?a ?l ?e ?n ?_; (case q => rfl); (case F => k_asm); (case N => first | k_asm | exact News.nil); (case b => exact Top.nolimit (by k_asm)); (case a => rfl); (case l => rfl); (case e => exact List.cons_ne_nil _ _); (case n => exact Nat.le_of_ble_eq_true rfl))); intro d' h' o' F' N' l1 lo' hd'; (try k_lt l1)))
  k_with "setItem ref str" => ((k_here; k_dflt (refine' kda_set (knd := PySem.strKind _ _) ?F ?N ?U ?d (strKind_is _ _ _ _) ?z ?_; (case F => k_asm); (case N => k_asm); (case U => k_updF); (case d => assumption); (case z => rw [sizeLine_eq]; omega)); intro h' o' F' N' hdS'; (try dsimp only at N')))
  k_with "my sub" => (((repeat (refine List.forall_mem_cons.mpr ⟨by k_mem, ?_⟩)); first | exact List.forall_mem_nil _ | (intro p hp; repeat (first | exact hp | refine List.Mem.tail _ ?_))))
  k_with "execs cons" => (first | (k_here; k_gentoks) | ((with_reducible refine wpAny_execs_cons ?_); try dsimp only))
  k_with "assignInOrder" => ((dsimp only; walk_at "assignInOrder"))
  k_with "enter" => (first
        | (refine' code_def ?k1 ?k2 ?k3 ?k4 ?k5 ?kA ?kF ?kK ?k6 ?k7 ?k8 ?k9 ?kB ?_ ?c2 ?c3 ?c4 ?c5; (case kA => exact rfl); (case kF => exact rfl); (case kK => first | exact rfl | assumption); (case k1 => k_asm); (case k2 => k_asm); (case k3 => k_asm); (case k4 => k_asm); (case k5 => k_asm); (case k6 => k_is); (case k7 => k_is); (case k8 => ktr_room); (case k9 => first | exact BindsTo.of_eq rfl | exact binds_K (by k_in) rfl (by k_is) rfl rfl rfl | fail "k_enter: no rule for these arguments"); (case c5 => decide); (case kB => exact locs rfl); (case c2 => exact rfl); (case c3 => exact rfl); (case c4 => exact rfl); k_whole; intro g' L' h' FG' F' N' B' X' T'; (try dsimp only); (try k_lift B'); (try k_fold)))
  k_with "call type:list" => ((k_here; (with_reducible show wpAny _ _ (call (Value.type "list") [Value.ref _]) _ _ _); k_dflt (refine' list_keys_K ?kh ?k1 ?k2 ?k3 ?k4 ?k5 ?k6 ?_; (case kh => exact rfl); (case k1 => k_asm); (case k2 => k_asm); (case k3 => k_mem); (case k4 => assumption); (case k5 => k_asm); (case k6 => omega); k_whole; intro lN2 cN2 vsN h' tk' hvN F' N' lNN; (try simp only [AllLt, and_true] at lNN))))
  k_with "binaryOp Add ref ref" => ((k_here; (with_reducible show wpAny _ _ (binaryOp _ (Value.ref _) (Value.ref _)) _ _ _); k_dflt (refine' add_lists_K ?F ?N ?a ?b ?z ?_; (case F => k_asm); (case N => k_asm); (case a => k_mem); (case b => k_mem); (case z => walk_at "my len")); intro D' h' F' N' l1; (try simp only [AllLt, and_true] at l1)))
  k_with "my len" => (((have hLn9 := strsAre_len hvN); (simp only [List.length_append, List.length_map, List.length_cons, List.length_nil] at *); omega))
  k_with "exec Assign cons ListComp" => ((k_here; (with_reducible show wpAny _ _ (exec (.Assign _ (.ListComp _ [⟨_, .Attribute _ _ _, _, _⟩] _ _) _) _) _ _ _); k_dflt (refine Assign_ListComp_TD (knd := PySem.strKind _ _) (by k_asm) (by rfl) (by with_unfolding_all rfl) (by with_unfolding_all rfl) (by decide) (by rfl) (by decide) (by rfl) (by rfl) (by rfl) ?_)))
  k_with "compareOp In str ref" => ((k_here; k_dflt (refine in_words_K (by k_asm) (by k_mem) hWd ?_)))
  k_with "getItem ref str" => ((k_here; k_dflt (refine kdt_getItem (knd := PySem.strKind _ _) (by k_asm) (by k_mem) (by k_asm) (strKind_is _ _ _ _) (by assumption) ?_)))
  k_with "my go" => (repeat' ((fail_if_success with_reducible refine strRest_at ?_); (fail_if_success with_reducible refine itemsRest_at ?_); first | (k_unfold; (try dsimp only)) | walk1 | (dsimp only; walk1) | fail "no step"))
  k_with "getAttr ref" => ((k_here; k_dflt (refine' get_attr_K ?k1 ?k2 ?k3 ?h1 ?h2 ?k4 ?k5 ?k6 ?k7 ?hA ?hl ?k9 ?_; (case k1 => k_asm); (case k2 => k_asm); (case k3 => k_asm); (case h1 => k_mem); (case h2 => k_mem); (case k4 => k_is); (case k5 => k_is); (case k6 => k_is); (case k7 => k_is); (case hA => assumption); (case hl => with_unfolding_all rfl); (case k9 => k_handed); k_whole)))
  k_with "setAttr ref" => ((k_here; k_dflt (refine' set_attr_K ?k1 ?k2 ?k3 ?h1 ?h2 ?k4 ?k5 ?k6 ?k7 ?U ?hA ?hl ?z ?_; (case k1 => k_asm); (case k2 => k_asm); (case k3 => k_asm); (case h1 => k_mem); (case h2 => k_mem); (case k4 => k_is); (case k5 => k_is); (case k6 => k_is); (case k7 => k_is); (case U => k_updF); (case hA => assumption); (case hl => with_unfolding_all rfl); (case z => omega); k_whole; intro h' es' F' N' hA' hz'; (try dsimp only at N'))))
  k_with "exec For Name Call cons nil" => ((k_here; (rename Fr _ _ _ _ => lF'); (with_unfolding_all refine' For_invVF lF' ?k1 ?k2 ?_; (case k1 => exact rfl); (case k2 => exact rfl); k_whole)))
  k_with "call type:range" => ((k_here; (rename Fr _ _ _ _ => lF'); (rename News _ _ _ _ => lN'); (with_unfolding_all refine range1_rows lF' lN' ?_); clear lF' lN'; intro h' tk9 t9 u9 v9 hR9 F' N' hkp9))
  k_with "subscriptTail" => ((k_here; (with_reducible show wpAny _ _ (subscriptTail _ _ (Value.ref _) (Value.int _ _)) _ _ _); k_dflt (refine item_words (by k_asm) (by k_mem) (by first | exact words_row | exact words_end | exact words_sep) (by omega) (by simpa [rowW, endW, sepW] using (by omega)) (by decide) ?_); intro x9 t9 hx9; first | have hl9 : x9.length ≤ 100 := row_len hx9 | have hl9 : x9.length ≤ 100 := end_len hx9 | have hl9 : x9.length ≤ 100 := sep_len hx9))
  k_with "call type:str" => ((refine str_line (by assumption) (by assumption) ?_; intro y9 t9 hy9 hyl9))
  k_with "compareOp NotEq str str" => ((refine nes_cases ?_ ?_ <;> intro hx0))
  k_with "compareOp Eq str str" => (first | refine eqs_b true (beq_iff_eq.mpr hx0) ?_ | refine eqs_b false (beq_eq_false_iff_ne.mpr hx0) ?_)
  k_with "call builtin:list.append" => ((k_here; k_dflt (refine' append_U ?F ?N ?U ?z ?_; (case F => k_asm); (case N => k_asm); (case U => k_updF); (case z => (simp only [List.length_append, List.length_cons, List.length_nil]; omega))); intro h' F' N'; (try dsimp only at N')))
  k_with "call builtin:dict.pop" => ((k_here; k_dflt (refine' pop_int ?F ?N ?U ?d ?lo ?z ?_; (case F => k_asm); (case N => k_asm); (case U => k_updF); (case d => assumption); (case lo => assumption); (case z => omega)); intro v' h' o' tk' F' N' hdS'; (try dsimp only at N')))
  k_with "setItem ref int" => ((k_here; k_dflt (refine' kda_set (knd := PySem.intKind _ _) ?F ?N ?U ?d (intKind_is _ _ _ _) ?z ?_; (case F => k_asm); (case N => k_asm); (case U => k_updF); (case d => assumption); (case z => rw [sizeLine_eq]; omega)); intro h' o' F' N' hdS'; (try dsimp only at N')))
  k_with "call builtin:str.join" => ((k_here; k_dflt (refine' join_rows ?N ?m ?s ?o ?l ?_; (case N => k_asm); (case m => k_mem); (case s => assumption); (case o => assumption); (case l => omega)); intro t9 k9 hj1 hj2))
  k_with "my go" => (repeat' ((fail_if_success with_reducible refine strRest_at ?_); (fail_if_success with_reducible refine itemsRest_at ?_); (fail_if_success with_reducible refine rangeRest_at ?_); first | (k_unfold; (try dsimp only)) | walk1 | (dsimp only; walk1) | fail "no step"))
  trivial
set_option hygiene false in



theorem rangeRest_sub {prog : Program} {w : World} {A : Around} {E : Value → Shared → Prop} {h₀ : Heap} {env : Env} {x : Str} {body : List Stmt} {Q : Flow → Shared → Prop} {s : Shared} {I : Addr} {a : Int} {n k i : Nat} {m : Str → Option Value} {news : List (Addr × Obj)} (news' : List (Addr × Obj))
    (sub : ∀ p ∈ news', p ∈ news) (h : RangeRest prog w A E h₀ env x body Q s I a n k i m news') : RangeRest prog w A E h₀ env x body Q s I a n k i m news := by
  cases k with
  | zero => exact fun h' tk F N => h h' tk F fun p hp => N p (sub p hp)
  | succ k =>
    intro u h' tk F N
    exact h u h' tk F fun p hp => N p (by
      rcases List.mem_cons.mp hp with rfl | hp
      · exact .head _
      · exact .tail _ (sub p hp))
theorem range_small {r : Int} (h0 : 0 ≤ r) (h1 : r < 4) : Builtin.Range.small 0 (1 + r) 1 = true ∧ Builtin.Range.rangeSize 0 (1 + r) 1 = (((1 + r).toNat : Nat) : Int) := by
  have h : r = 0 ∨ r = 1 ∨ r = 2 ∨ r = 3 := by omega
  rcases h with rfl | rfl | rfl | rfl
  all_goals exact ⟨by decide +kernel, by decide +kernel⟩
theorem words_row {a b c d : Tok} : StrsAre [.str (Str.ofString "END") a, .str (Str.ofString "") b, .str (Str.ofString "A=1") c, .str (Str.ofString "PRINT 2 ") d] rowW := .cons _ _ (.cons _ _ (.cons _ _ (.cons _ _ .nil)))
theorem words_end {a b c : Tok} : StrsAre [.str (Str.ofString "\r") a, .str (Str.ofString "") b, .str (Str.ofString "\r\r") c] endW := .cons _ _ (.cons _ _ (.cons _ _ .nil))
theorem words_sep {a b c d : Tok} : StrsAre [.str (Str.ofString "\r") a, .str (Str.ofString " \r") b, .str (Str.ofString "") c, .str (Str.ofString "  ") d] sepW := .cons _ _ (.cons _ _ (.cons _ _ (.cons _ _ .nil)))
theorem row_len {x : Str} (h : x ∈ rowW) : x.length ≤ 100 := by
  simp only [rowW, List.mem_cons, List.not_mem_nil, or_false] at h
  rcases h with rfl | rfl | rfl | rfl <;> exact Nat.le_of_ble_eq_true (by decide +kernel)
theorem end_len {x : Str} (h : x ∈ endW) : x.length ≤ 100 := by
  simp only [endW, List.mem_cons, List.not_mem_nil, or_false] at h
  rcases h with rfl | rfl | rfl <;> exact Nat.le_of_ble_eq_true (by decide +kernel)
theorem sep_len {x : Str} (h : x ∈ sepW) : x.length ≤ 100 := by
  simp only [sepW, List.mem_cons, List.not_mem_nil, or_false] at h
  rcases h with rfl | rfl | rfl | rfl <;> exact Nat.le_of_ble_eq_true (by decide +kernel)
theorem str_line {prog : Program} {w : World} {A : Around} {E Q : Value → Shared → Prop} {s : Shared} {r : Int} {t : Tok} (h0 : 0 ≤ r) (h1 : r < 3) (h : ∀ y t', y = Str.ofString (toString (10 * (1 + r))) → y.length ≤ 100 → Q (.str y t') { s with toks := s.toks + 1 }) :
    wpAny (model prog w) A (call (.type "str") [.int (10 * (1 + r)) t]) Q E s := by
  have hr : r = 0 ∨ r = 1 ∨ r = 2 := by omega
  rcases hr with rfl | rfl | rfl
  all_goals exact P.str_of_int (by decide +kernel) (h _ _ rfl (Nat.le_of_ble_eq_true (by decide +kernel)))
theorem nes_cases {prog : Program} {w : World} {A : Around} {E Q : Value → Shared → Prop} {s : Shared} {x y : Str} {t u : Tok} (h0 : x = y → Q (.bool false) s) (h1 : x ≠ y → Q (.bool true) s) : wpAny (model prog w) A (compareOp .NotEq (.str x t) (.str y u)) Q E s := by
  refine P.ne_str ?_
  by_cases e : x = y
  · subst e; rw [bne_self_eq_false]; exact h0 rfl
  · rw [bne_iff_ne.mpr (fun h => e (Str.ext' (Array.toList_inj.mp h)))]; exact h1 e
/-- no row has a line's end; each is short -/
theorem okRow_facts {r : Str} {a : Option (Int × Str)} (h : OkRow r a) : r.length ≤ 100 ∧ 10 ∉ r.cps.toList := by
  cases h with
  | sep r h =>
    simp only [sepW, List.mem_cons, List.not_mem_nil, or_false] at h
    rcases h with rfl | rfl | rfl | rfl
    all_goals exact ⟨Nat.le_of_ble_eq_true (by decide +kernel), by decide +kernel⟩
  | top n x e hn hx he =>
    simp only [rowW, endW, List.mem_cons, List.not_mem_nil, or_false] at hn hx he
    rcases hn with rfl | rfl | rfl
    all_goals
      rcases hx with rfl | rfl | rfl | rfl
      all_goals
        rcases he with rfl | rfl | rfl
        all_goals exact ⟨Nat.le_of_ble_eq_true (by decide +kernel), by decide +kernel⟩
theorem okRows_mem {rs : List Str} {as : List (Option (Int × Str))} (h : OkRows rs as) : ∀ r ∈ rs, r.length ≤ 100 ∧ 10 ∉ r.cps.toList := by
  induction h with
  | nil => intro r m; cases m
  | cons h _ ih =>
    intro r m
    rcases List.mem_cons.mp m with rfl | m
    · exact okRow_facts h
    · exact ih r m
theorem sum_len : ∀ {rs : List Str}, (∀ r ∈ rs, r.length ≤ 100) → (rs.map (·.length)).sum ≤ 100 * rs.length
  | [], _ => Nat.le_refl _
  | r :: rs, h => by
    have h1 := h r (.head _)
    have h2 := sum_len fun q m => h q (.tail _ m)
    simp only [List.map_cons, List.sum_cons, List.length_cons]
    omega
theorem joinL_len (c : Nat) : ∀ l : List (List Nat), (joinL c l).length ≤ (l.map List.length).sum + l.length
  | [] => Nat.le_refl _
  | [x] => by simp [joinL]
  | x :: y :: r => by
    have := joinL_len c (y :: r)
    simp only [joinL, List.length_append, List.length_cons, List.map_cons, List.sum_cons] at this ⊢
    omega
theorem join_rows {prog : Program} {w : World} {A : Around} {E Q : Value → Shared → Prop} {s : Shared} {h₀ : Heap} {L D : Addr} {news : List (Addr × Obj)} {vs : List Value} {c : Nat} {rs : List Str} {as : List (Option (Int × Str))} {t : Tok}
    (N : News h₀ L s.heap news) (hm : (D, W.listOf vs.toArray c) ∈ news) (hv : StrsAre vs rs) (ho : OkRows rs as) (hl : 1 ≤ rs.length ∧ rs.length ≤ 8)
    (h : ∀ t' k, Txt.split (Txt.join (Str.ofString "\n") rs) (Str.ofString "\n") = rs → (Txt.join (Str.ofString "\n") rs).length ≤ 1000 → Q (.str (Txt.join (Str.ofString "\n") rs) t') { s with toks := k }) :
    wpAny (model prog w) A (call (.builtin "str.join") [.str (Str.ofString "\n") t, .ref D]) Q E s := by
  have hf := okRows_mem ho
  have hs := sum_len fun r m => (hf r m).1
  have e1 : Str.ofString "\n" = ⟨#[10]⟩ := by decide +kernel
  have hl1 : (Str.ofString "\n").length = 1 := by decide +kernel
  refine PyProof.Rows.join_list (items := vs.toArray) ⟨_, (N _ hm).1, rfl, _, rfl⟩ (by simpa using hv) (by rw [hl1]; omega) fun t' k => h t' k ?_ ?_
  · rw [e1]
    exact split_join (by intro e; rw [e] at hl; simp at hl) fun r m => (hf r m).2
  · rw [e1, show Txt.join ⟨#[10]⟩ rs = Str.join ⟨#[10]⟩ rs from StrLaws.glued_eq_join _ _]
    have e2 := joinL_len 10 (rs.map fun r => r.cps.toList)
    rw [← join_list 10 rs] at e2
    have e3 : (rs.map fun r => r.cps.toList).map List.length = rs.map (·.length) := by rw [List.map_map]; exact List.map_congr_left fun r _ => Array.length_toList
    rw [e3, List.length_map, Array.length_toList] at e2
    exact Nat.le_trans e2 (by omega)


section
variable {w : World} {mean : ExcName → Option Value} {mg mb : Str → Option Value} {dp un : Nat} {gd : Option (List Code)} {cn : Str} {cs : Scope} {a : Addr} {ccd : Value} {cl : List (Str × Addr)} {outer : List Env} {A₀ : Around} {base h₀ : Heap} {L : Addr} {m : Str → Option Value} {s : Shared} {Q E : Value → Shared → Prop} {news news' : List (Addr × Obj)}
theorem text_K {pot scr : Addr} {n : Int} {t : Tok} {ep : Nat} {ws : List Value} {ns : List Int}
    (B : Below A₀ base outer h₀) (F : Fr h₀ L s.heap m) (X : (hd.heap_39 w.params).In h₀)
    (N : News h₀ L s.heap [(pot, listOf #[.int n t, .ref scr] ep), (scr, listOf ws.toArray 0)])
    (T : Top hd.view_39 (looseW hd.view_39 [Str.ofString "BasicError"]) mean mg mb h₀) (hk : cs.kind = .function)
    (hI : IntsAre ws ns) (hn : 0 ≤ n) (hn2 : n ≤ 100) (hps : @LT.lt Nat _ scr pot) (hlen : ns.length ≤ 48)
    (hd : dp + 2 < recursionLimit) (_hu : un + 16 < cLine)
    (ret : ∀ (q dF : Addr) (o : Obj) (kvs : List (Int × Value)) (txt : Str) (rs : List Str) (as : List (Option (Int × Str))) (tt : Tok) h' tk', Fr h₀ L h' m → News h₀ L h' [(q, tupOf [.str txt tt, .ref dF]), (dF, o)] → @LT.lt Nat _ dF q → (dF == sysModules) = false → o.IsDictOf (PySem.intKind PySem.Challenge.rw_pf0005_01.row.prog w) kvs → SameV kvs (as.foldl actA []) → kvs.length ≤ 4 → OkRows rs as → rs.length ≤ 8 → Txt.split txt (Str.ofString "\n") = rs → txt.length ≤ 1000 → Q (.ref q) { s with heap := h', toks := tk' }) :
    wpAny (model PySem.Challenge.rw_pf0005_01.row.prog w) (ktrTop dp un gd cn cs L a ccd cl outer) (call (.ref 181) [.ref pot]) Q E s := by
  walk_at "my enter"
  walk_at "my go"
  rename_i a1 tk1 lR h2 l1_1 d1 h3 o1 lo1 hs1 fs1 hi1 fi1 l1_2 D1 h4 l1_3 h5 h6 h7 N7 h8
  clear N7 lF' hs1 fs1 fi1 hkp9 hR9
  dsimp only
  refine rangeRest_sub [(lR, W.listOf [].toArray 0), (d1, o1), (pot, W.listOf #[.int (n + 1) tp, .ref scr] ep), (scr, W.listOf ws.toArray 0)] ?sub ?_
  case sub => walk_at "my sub"
  have hnz : (1 + rr).toNat ≤ 4 ∧ 1 ≤ (1 + rr).toNat := by omega
  generalize (1 + rr).toNat = nt at hnz ⊢
  refine rangeRest_inv3 (Str.ofString "line") (Str.ofString "row") (fun i nw => ∃ (k : Int) (t1 : Tok) (rv : List Value) (c : Nat) (rs : List Str) (as : List (Option (Int × Str))) (oD : Obj) (kvs : List (Int × Value)), nw = [(lR, W.listOf rv.toArray c), (d1, oD), (pot, W.listOf #[.int k t1, .ref scr] ep), (scr, W.listOf ws.toArray 0)] ∧ StrsAre rv rs ∧ OkRows rs as ∧ rs.length = 2 * i ∧ oD.IsDictOf (PySem.intKind PySem.Challenge.rw_pf0005_01.row.prog w) kvs ∧ SameV kvs (as.foldl actA []) ∧ kvs.length ≤ i ∧ k = n + 1 + 4 * i) ?_ ?_ ⟨n + 1, tp, [], 0, [], [], o1, [], rfl, .nil, .nil, rfl, hi1, .nil, Nat.le_refl _, by simp⟩
  · intro i nw hi hJ u t2 it h tk F0 N0
    obtain ⟨k, t1, rv, c, rs, as, oD, kvs, rfl, hrv, hok, hrl, hD, hS, hkl, hkk⟩ := hJ
    have hvl := strsAre_len hrv
    dsimp only
    walk_at "my go"
    · rename_i tkz1 rrz1 trz1 tpz1 tqz1 hr0z1 hr1z1 hz1 t9z1 tkz2 rrz2 trz2 tpz2 hz2 tqz2 hr0z2 hr1z2 lz1 hz3 l1z1 rrz3 trz3 tpz3 hz4 tqz3 hr0z3 hr1z3 x9z1 t9z2 hx9z1 hl9z1 Dz1 hz5 l1z2 hz6 hz7 hz8 tkz3 t9z3 t_z1 kz1 az1 t_z2 kz2 az2 lz2 hz9 l1z3 rrz4 trz4 tpz4 hz10 tqz4 hr0z4 hr1z4 x9z2 t9z4 hx9z2 hl9z2 t_z3 kz3 az3 hz11 tkz4 lz3 hz12 l1z4 hz13 tqz5 hz14 FFz1 NNz1 tkz5
      have hn9 : (10 * (1 + rrz2)) ∈ [(10 : Int), 20, 30] := by
        have h9 : rrz2 = 0 ∨ rrz2 = 1 ∨ rrz2 = 2 := by omega
        rcases h9 with rfl | rfl | rfl <;> decide
      have eR : y9 ++ Str.ofString "" ++ x9z1 ++ x9z2 = topS (10 * (1 + rrz2)) x9z1 x9z2 := by unfold topS; rw [if_pos hx0, hy9]
      have hok9 := (hok.snoc (OkRow.top _ _ _ hn9 hx9z1 hx9z2)).snoc (OkRow.sep _ hx9)
      rw [← eR] at hok9
      refine' ⟨_, _, _, [(lR, _), (d1, _), (pot, _), (scr, _)], rfl, ?F, ?N, ?off, ?fr, ⟨_, _, _, _, _, _, _, _, rfl, ?rv, hok9, ?rl, ?d, ?s, ?l, ?k⟩⟩
      case F => assumption
      case N => exact news_sub (by assumption) (by walk_at "my sub")
      case off => k_all
      case fr => (intro y h1 h2 h3; simp only [h1, h2, h3, if_false] <;> rfl)
      case rv =>
        have q := strsAre_snoc (x := x9) (t := t9) (strsAre_snoc (x := y9 ++ Str.ofString "" ++ x9z1 ++ x9z2) (t := t_z3) hrv)
        rw [List.concat_eq_append, Array.toList_push]
        exact q
      case rl => simp only [List.length_append, List.length_cons, List.length_nil]; omega
      case d => assumption
      case s =>
        rw [List.foldl_append, List.foldl_append]
        show SameV _ (if x9z1 = Str.ofString "" then _ else _)
        rw [if_pos hx0]
        exact (hS.without _)
      case l => exact Nat.le_trans (without_len _ _) (by omega)
      case k => omega
    · rename_i tkz1 rrz1 trz1 tpz1 tqz1 hr0z1 hr1z1 hz1 t9z1 tkz2 rrz2 trz2 tpz2 hz2 tqz2 hr0z2 hr1z2 lz1 hz3 l1z1 rrz3 trz3 tpz3 hz4 tqz3 hr0z3 hr1z3 x9z1 t9z2 hx9z1 hl9z1 Dz1 hz5 l1z2 hz6 hz7 hz8 tkz3 t9z3 t_z1 kz1 az1 t_z2 kz2 az2 lz2 hz9 l1z3 rrz4 trz4 tpz4 hz10 tqz4 hr0z4 hr1z4 x9z2 t9z4 hx9z2 hl9z2 t_z3 kz3 az3 hz11 tkz4 lz3 hz12 l1z4 hz13 hz14 FFz1 NNz1 tkz5
      have hn9 : (10 * (1 + rrz2)) ∈ [(10 : Int), 20, 30] := by
        have h9 : rrz2 = 0 ∨ rrz2 = 1 ∨ rrz2 = 2 := by omega
        rcases h9 with rfl | rfl | rfl <;> decide
      have eR : y9 ++ Str.ofString " " ++ x9z1 ++ x9z2 = topS (10 * (1 + rrz2)) x9z1 x9z2 := by unfold topS; rw [if_neg hx0, hy9]
      have hok9 := (hok.snoc (OkRow.top _ _ _ hn9 hx9z1 hx9z2)).snoc (OkRow.sep _ hx9)
      rw [← eR] at hok9
      refine' ⟨_, _, _, [(lR, _), (d1, _), (pot, _), (scr, _)], rfl, ?F, ?N, ?off, ?fr, ⟨_, _, _, _, _, _, _, _, rfl, ?rv, hok9, ?rl, ?d, ?s, ?l, ?k⟩⟩
      case F => assumption
      case N => exact news_sub (by assumption) (by walk_at "my sub")
      case off => k_all
      case fr => (intro y h1 h2 h3; simp only [h1, h2, h3, if_false] <;> rfl)
      case rv =>
        have q := strsAre_snoc (x := x9) (t := t9) (strsAre_snoc (x := y9 ++ Str.ofString " " ++ x9z1 ++ x9z2) (t := t_z3) hrv)
        rw [List.concat_eq_append, Array.toList_push]
        exact q
      case rl => simp only [List.length_append, List.length_cons, List.length_nil]; omega
      case d => assumption
      case s =>
        rw [List.foldl_append, List.foldl_append]
        show SameV _ (if x9z1 = Str.ofString "" then _ else _)
        rw [if_neg hx0]
        exact (hS.stored _ x9z1 _ _)
      case l => exact Nat.le_trans (stored_len _ _ _) (by omega)
      case k => omega
  · intro nw hJ u h tk F0 N0
    obtain ⟨k, t1, rv, c, rs, as, oD, kvs, rfl, hrv, hok, hrl, hD, hS, hkl, hkk⟩ := hJ
    have hvl := strsAre_len hrv
    dsimp only
    have hrl8 : 1 ≤ rs.length ∧ rs.length ≤ 8 := by omega
    walk_at "my go"
    rename_i tkz t9z Dz hz Fz Nz lz kF kN Tcz kX
    refine ret _ _ _ _ _ _ _ _ _ _ kF (news_sub kN (List.forall_mem_cons.mpr ⟨.head _, List.forall_mem_cons.mpr ⟨.tail _ (.tail _ (.head _)), List.forall_mem_nil _⟩⟩)) (by omega) lo1 hD hS (by omega) hok hrl8.2 hj1 hj2
end

/-! PlainV -/
theorem valueAt_mem {K : Type} [DecidableEq K] {kvs : List (K × Value)} {k : K} {v : Value} (h : valueAt kvs k = some v) : (k, v) ∈ kvs := by
  unfold valueAt at h
  obtain ⟨p, hp, rfl⟩ := Option.map_eq_some_iff.mp h
  have h1 := List.find?_some hp
  have h2 := List.mem_of_find?_eq_some hp
  have e : p.1 = k := by simpa using h1
  subst e
  exact h2
theorem valueAt_of_mem {K : Type} [DecidableEq K] {kvs : List (K × Value)} {k : K} {v : Value} (n : (kvs.map (·.1)).Nodup) (h : (k, v) ∈ kvs) : valueAt kvs k = some v := by
  obtain ⟨i, hi⟩ := List.mem_iff_getElem?.mp h
  exact valueAt_get n hi
theorem valueAt_keys {K : Type} [DecidableEq K] {kvs : List (K × Value)} {k : K} : (valueAt kvs k).isSome = true ↔ k ∈ kvs.map (·.1) := by
  constructor
  · intro h
    obtain ⟨v, hv⟩ := Option.isSome_iff_exists.mp h
    exact List.mem_map.mpr ⟨_, valueAt_mem hv, rfl⟩
  · intro h
    obtain ⟨p, hp, rfl⟩ := List.mem_map.mp h
    unfold valueAt
    rw [Option.isSome_map, List.find?_isSome]
    exact ⟨p, hp, by simp⟩
theorem valueAt_storeAll {K : Type} [DecidableEq K] {f : K → Value} {k : K} : ∀ {ps init : List (K × Value)}, (∀ p ∈ ps, p.2 = f p.1) → valueAt (storeAll init ps) k = if k ∈ ps.map (·.1) then some (f k) else valueAt init k := by
  intro ps
  induction ps with
  | nil => intro init _; simp [storeAll]
  | cons p r ih =>
    intro init h
    show valueAt (storeAll (stored init p.1 p.2) r) k = _
    rw [ih fun q hq => h q (.tail _ hq), valueAt_stored, h p (.head _)]
    by_cases h1 : k ∈ r.map (·.1)
    · rw [if_pos h1, if_pos (show k ∈ (p :: r).map (·.1) from List.mem_cons_of_mem _ h1)]
    · rw [if_neg h1]
      by_cases h2 : p.1 = k
      · subst h2; rw [if_pos rfl, if_pos (by simp)]
      · rw [if_neg h2, if_neg]
        simp only [List.map_cons, List.mem_cons, not_or]
        exact ⟨fun e => h2 e.symm, h1⟩
theorem nodup_len {α : Type} [DecidableEq α] : ∀ {l₁ l₂ : List α}, l₁.Nodup → (∀ x ∈ l₁, x ∈ l₂) → l₁.length ≤ l₂.length
  | [], _, _, _ => Nat.zero_le _
  | a :: r, l₂, n, h => by
    have n' := List.nodup_cons.mp n
    have ha := h a (.head _)
    have := nodup_len (l₂ := l₂.erase a) n'.2 fun x hx => (List.mem_erase_of_ne (fun e : x = a => n'.1 (by rw [← e]; exact hx))).mpr (h x (.tail _ hx))
    rw [List.length_erase_of_mem ha] at this
    have hp : 0 < l₂.length := List.length_pos_of_mem ha
    simp only [List.length_cons]
    omega
theorem dict_len {K : Type} [DecidableEq K] {a b : List (K × Value)} (na : (a.map (·.1)).Nodup) (nb : (b.map (·.1)).Nodup) (h : ∀ k, (valueAt a k).isSome = (valueAt b k).isSome) : a.length = b.length := by
  have h1 := nodup_len na fun k hk => valueAt_keys.mp (by rw [← h]; exact valueAt_keys.mpr hk)
  have h2 := nodup_len nb fun k hk => valueAt_keys.mp (by rw [h]; exact valueAt_keys.mpr hk)
  simp only [List.length_map] at h1 h2
  omega
theorem hits_all {K : Type} [DecidableEq K] {A : Around} {s : Shared} {kb : List (K × Value)} : ∀ {ka : List (K × Value)}, (∀ k v, (k, v) ∈ ka → ∃ y, valueAt kb k = some y ∧ SeqAt.EqAt A s v y true) → KeqHits A s kb ka true
  | [], _ => .nil
  | (k, v) :: r, h => by
    obtain ⟨y, hy, he⟩ := h k v (.head _)
    exact KeqHits.hit (e := true) (b := true) hy he (hits_all fun k v m => h k v (.tail _ m))
/-! the kind of a name, twice told -/
theorem item_last {x : Str} (h : 0 < x.length) : Txt.item x ((x.length : Int) - 1) = ⟨#[lastC x]⟩ := by
  show (⟨#[(Txt.charAt x ((x.length : Int) - 1)).getD 0]⟩ : Str) = ⟨#[(Txt.charAt x (-1)).getD 0]⟩
  have e : seqIndex? ((x.length : Int) - 1) x.length = seqIndex? (-1) x.length := by
    unfold seqIndex?
    have h1 : ¬ (x.length : Int) - 1 < 0 := by omega
    have h2 : (-1 : Int) < 0 := by decide
    simp only [h1, h2, if_false, if_true]
    have h3 : (x.length : Int) - 1 = -1 + x.length := by omega
    rw [h3]
  unfold Txt.charAt
  rw [e]
theorem one_eq {c d : Nat} : ((⟨#[c]⟩ : Str) == ⟨#[d]⟩) = decide (c = d) := by
  by_cases h : c = d
  · subst h; simp
  · rw [decide_eq_false h, beq_eq_false_iff_ne]
    intro e
    have := congrArg (fun z : Str => z.cps.toList) e
    simp at this
    exact h this
theorem kindS_own {kvs : List (Str × Value)} {x : Str} (h : 0 < x.length) : kindS kvs x = ownK kvs x := by
  have e1 : Str.ofString "$" = ⟨#[36]⟩ := by decide +kernel
  have e2 : Str.ofString "%" = ⟨#[37]⟩ := by decide +kernel
  have e3 : Str.ofString "!" = ⟨#[33]⟩ := by decide +kernel
  unfold kindS ownK
  rw [item_last h, e1, e2, e3, one_eq, one_eq, one_eq]
  simp only [decide_eq_true_eq]
theorem own_nil (x : Str) : ownK [] x = if lastC x = 36 then Str.ofString "text" else if lastC x = 37 then Str.ofString "whole" else Str.ofString "decimal" := by
  unfold ownK
  split
  · rfl
  split
  · rfl
  split <;> rfl
theorem same_own {kvs : List (Str × Value)} {x : Str} (h : 0 < x.length) : (kindS [] x == kindS kvs x) = ownB kvs x := by
  rw [kindS_own h, kindS_own h, own_nil]
  unfold ownK ownB
  split
  · simp
  split
  · simp
  split
  · simp
  · exact Bool.eq_iff_iff.mpr ⟨fun e => beq_iff_eq.mpr (beq_iff_eq.mp e).symm, fun e => beq_iff_eq.mpr (beq_iff_eq.mp e).symm⟩
theorem names8_arr {x : Str} (h : x ∈ names8) : isArr x = false := by
  simp only [names8, List.mem_cons, List.not_mem_nil, or_false] at h
  rcases h with rfl | rfl | rfl | rfl | rfl | rfl | rfl | rfl <;> decide +kernel
theorem arrs4_word {x : Str} (h : x ∈ arrs4) : isArr (x ++ Str.ofString "()") = true ∧ stripW (x ++ Str.ofString "()") = x := by
  simp only [arrs4, List.mem_cons, List.not_mem_nil, or_false] at h
  rcases h with rfl | rfl | rfl | rfl <;> exact ⟨by decide +kernel, by decide +kernel⟩
theorem words_arr {x : Str} (h : x ∈ names8 ++ zs3 ++ as5) (ha : isArr x = true) : stripW x ++ Str.ofString "()" = x := by
  have h' : x ∈ [Str.ofString "A", Str.ofString "AB", Str.ofString "B", Str.ofString "B$", Str.ofString "C%", Str.ofString "I", Str.ofString "I!", Str.ofString "S$", Str.ofString "Z", Str.ofString "Z$", Str.ofString "Z%", Str.ofString "A()", Str.ofString "I()", Str.ofString "I%()", Str.ofString "S()", Str.ofString "Z()"] := h
  simp only [List.mem_cons, List.not_mem_nil, or_false] at h'
  rcases h' with rfl | rfl | rfl | rfl | rfl | rfl | rfl | rfl | rfl | rfl | rfl | rfl | rfl | rfl | rfl | rfl
  all_goals first
    | (exfalso; revert ha; decide +kernel)
    | decide +kernel
theorem any_mem {ws : List Str} {k : Str} : ws.any (· == k) = true ↔ k ∈ ws := by
  rw [List.any_eq_true]
  exact ⟨fun ⟨x, hx, e⟩ => by rw [← beq_iff_eq.mp e]; exact hx, fun h => ⟨k, h, by simp⟩⟩
/-! the names that are handed on -/
theorem names_at {kvsL kvsN : List (Str × Value)} {ws : List Str} {led : List (Addr × Obj)} (hn : NamesOK led kvsN) (nd : (kvsN.map (·.1)).Nodup) (k : Str) :
    valueAt (storeAll [] (selP kvsN (plainW kvsL ws))) k = valueAt (storeAll [] (dueP kvsL ws kvsN)) k := by
  rw [valueAt_storeAll (f := fun k => (valueAt kvsN k).getD .none) (fun p hp => ?_), valueAt_storeAll (f := fun k => (valueAt kvsN k).getD .none) (fun p hp => ?_)]
  · have e : (k ∈ (selP kvsN (plainW kvsL ws)).map (·.1)) ↔ (k ∈ (dueP kvsL ws kvsN).map (·.1)) := by
      constructor
      · intro h
        obtain ⟨⟨k', v⟩, hp, rfl⟩ := List.mem_map.mp h
        unfold selP at hp
        obtain ⟨x, hx, e⟩ := List.mem_filterMap.mp hp
        obtain ⟨u, hu, e⟩ := Option.map_eq_some_iff.mp e
        cases e
        unfold plainW at hx
        obtain ⟨h1, h2⟩ := List.mem_filter.mp hx
        have hk := (hn _ _ hu).1
        rw [same_own (names8_len _ hk).1] at h2
        refine List.mem_map.mpr ⟨(k', v), List.mem_filter.mpr ⟨valueAt_mem hu, ?_⟩, rfl⟩
        rw [any_mem.mpr h1]
        simp only [Bool.and_eq_true] at h2
        simpa using h2.2
      · intro h
        obtain ⟨⟨k', v⟩, hp, rfl⟩ := List.mem_map.mp h
        obtain ⟨h1, h2⟩ := List.mem_filter.mp hp
        have hv := valueAt_of_mem nd h1
        have hk := (hn _ _ hv).1
        simp only [Bool.and_eq_true] at h2
        refine List.mem_map.mpr ⟨(k', v), List.mem_filterMap.mpr ⟨k', List.mem_filter.mpr ⟨any_mem.mp h2.1, ?_⟩, by rw [hv]; rfl⟩, rfl⟩
        rw [names8_arr hk, same_own (names8_len _ hk).1, h2.2]
        rfl
    by_cases h : k ∈ (selP kvsN (plainW kvsL ws)).map (·.1)
    · rw [if_pos h, if_pos (e.mp h)]
    · rw [if_neg h, if_neg fun h' => h (e.mpr h')]
  · rw [valueAt_of_mem nd ((List.mem_filter.mp hp).1)]; rfl
  · unfold selP at hp
    obtain ⟨x, hx, e⟩ := List.mem_filterMap.mp hp
    obtain ⟨u, hu, e⟩ := Option.map_eq_some_iff.mp e
    subst e
    simp only [hu, Option.getD_some]
theorem names_mem {kvsL kvsN : List (Str × Value)} {ws : List Str} (nd : (kvsN.map (·.1)).Nodup) {k : Str} {v : Value} (h : valueAt (storeAll [] (dueP kvsL ws kvsN)) k = some v) : valueAt kvsN k = some v := by
  rw [valueAt_storeAll (f := fun k => (valueAt kvsN k).getD .none) (fun p hp => by rw [valueAt_of_mem nd ((List.mem_filter.mp hp).1)]; rfl)] at h
  split at h
  · rename_i hm
    obtain ⟨⟨k', u⟩, hp, rfl⟩ := List.mem_map.mp hm
    have e := valueAt_of_mem nd ((List.mem_filter.mp hp).1)
    simp only [e, Option.getD_some] at h
    simp only at e ⊢
    rw [e, ← h]
  · cases h
section
variable {A : Around} {s : Shared} {kvsL kvsN kvsA k1 k2 : List (Str × Value)} {ws : List Str} {led : List (Addr × Obj)}
theorem names_hits (hn : NamesOK led kvsN) (nd : (kvsN.map (·.1)).Nodup) (n1 : ((storeAll [] (selP kvsN (plainW kvsL ws))).map (·.1)).Nodup) (n2 : ((storeAll [] (dueP kvsL ws kvsN)).map (·.1)).Nodup) :
    KeqHits A s (storeAll [] (dueP kvsL ws kvsN)) (storeAll [] (selP kvsN (plainW kvsL ws))) true ∧ (storeAll [] (selP kvsN (plainW kvsL ws))).length = (storeAll [] (dueP kvsL ws kvsN)).length :=
  ⟨hits_all fun k v m => ⟨v, by rw [← names_at hn nd]; exact valueAt_of_mem n1 m, SeqAt.EqAt.same v⟩, dict_len n1 n2 fun k => by rw [names_at hn nd]⟩
theorem gridK_mem {k : Str} : k ∈ gridK kvsL ws kvsA ↔ (valueAt kvsA k).isSome = true ∧ k ++ Str.ofString "()" ∈ ws ∧ ownB kvsL k = true := by
  unfold gridK
  rw [valueAt_keys]
  constructor
  · intro h
    obtain ⟨p, hp, rfl⟩ := List.mem_map.mp h
    obtain ⟨h1, h2⟩ := List.mem_filter.mp hp
    rw [Bool.and_eq_true] at h2
    exact ⟨List.mem_map.mpr ⟨p, h1, rfl⟩, any_mem.mp h2.1, h2.2⟩
  · rintro ⟨h1, h2, h3⟩
    obtain ⟨p, hp, rfl⟩ := List.mem_map.mp h1
    exact List.mem_map.mpr ⟨p, List.mem_filter.mpr ⟨hp, by rw [any_mem.mpr h2, h3]; rfl⟩, rfl⟩
theorem someW_mem {k : Str} (hw : ∀ x ∈ ws, x ∈ names8 ++ zs3 ++ as5) (hk : k ∈ arrs4) : k ∈ someW ws ↔ k ++ Str.ofString "()" ∈ ws := by
  unfold someW
  constructor
  · intro h
    obtain ⟨x, hx, rfl⟩ := List.mem_map.mp h
    obtain ⟨h1, h2⟩ := List.mem_filter.mp hx
    rw [words_arr (hw x h1) h2]
    exact h1
  · intro h
    exact List.mem_map.mpr ⟨_, List.mem_filter.mpr ⟨h, (arrs4_word hk).1⟩, (arrs4_word hk).2⟩
theorem selA_mem {k : Str} {v : Value} {l : List Str} : (k, v) ∈ selA kvsL kvsA l ↔ k ∈ l ∧ (kindS [] k == kindS kvsL k) = true ∧ valueAt kvsA k = some v := by
  unfold selA
  rw [List.mem_filterMap]
  constructor
  · rintro ⟨x, hx, e⟩
    split at e
    · obtain ⟨u, hu, e⟩ := Option.map_eq_some_iff.mp e
      cases e
      exact ⟨hx, ‹_›, hu⟩
    · cases e
  · rintro ⟨h1, h2, h3⟩
    exact ⟨k, h1, by rw [if_pos h2, h3]; rfl⟩
theorem arrs_at (ha : ArrsOK led kvsA) (hw : ∀ x ∈ ws, x ∈ names8 ++ zs3 ++ as5) (k : Str) :
    valueAt (storeAll [] (selA kvsL kvsA (someW ws))) k = if k ∈ gridK kvsL ws kvsA then valueAt kvsA k else none := by
  rw [valueAt_storeAll (f := fun k => (valueAt kvsA k).getD .none) (fun p hp => by obtain ⟨k', v⟩ := p; rw [(selA_mem.mp hp).2.2]; rfl)]
  have e : (k ∈ (selA kvsL kvsA (someW ws)).map (·.1)) ↔ k ∈ gridK kvsL ws kvsA := by
    rw [gridK_mem]
    constructor
    · intro h
      obtain ⟨⟨k', v⟩, hp, rfl⟩ := List.mem_map.mp h
      obtain ⟨h1, h2, h3⟩ := selA_mem.mp hp
      have hk := (ha _ _ h3).1
      exact ⟨by rw [h3]; rfl, (someW_mem hw hk).mp h1, by rw [← same_own (arrs4_len _ hk).1]; exact h2⟩
    · rintro ⟨h1, h2, h3⟩
      obtain ⟨v, hv⟩ := Option.isSome_iff_exists.mp h1
      have hk := (ha _ _ hv).1
      exact List.mem_map.mpr ⟨(k, v), selA_mem.mpr ⟨(someW_mem hw hk).mpr h2, by rw [same_own (arrs4_len _ hk).1]; exact h3, hv⟩, rfl⟩
  by_cases h : k ∈ gridK kvsL ws kvsA
  · rw [if_pos (e.mpr h), if_pos h]
    obtain ⟨v, hv⟩ := Option.isSome_iff_exists.mp (gridK_mem.mp h).1
    rw [hv]; rfl
  · rw [if_neg fun h' => h (e.mp h'), if_neg h]
    rfl
theorem gridK_nodup (nd : (kvsA.map (·.1)).Nodup) : (gridK kvsL ws kvsA).Nodup := nd.sublist ((List.filter_sublist).map _)
theorem row_eq {h₀ : Heap} {L : Addr} {news : List (Addr × Obj)} (N : News h₀ L s.heap news) {q1 q2 : Addr} {k : Str} {t t' u u' : Tok} (hk : k ∈ arrs4) (m1 : (q1, W.listOf #[.str k t, .int 1 u] 0) ∈ news) (m2 : (q2, W.listOf #[.str k t', .int 1 u'] 0) ∈ news) (hu : A.in1.units + 64 < cLine) : SeqAt.EqAt A.in1 s (.ref q1) (.ref q2) true := by
  have r1 : Reads s.heap (.ref q1) (.list [.str k, .int 1]) [q1] := .list (N _ m1).1 rfl rfl (.cons (as := []) (.str _ _) (.cons (as := []) (.int _ _) .nil))
  have r2 : Reads s.heap (.ref q2) (.list [.str k, .int 1]) [q2] := .list (N _ m2).1 rfl rfl (.cons (as := []) (.str _ _) (.cons (as := []) (.int _ _) .nil))
  have hs : SeqAt.shaped (.list [.str k, .int 1]) = true := by
    simp only [arrs4, List.mem_cons, List.not_mem_nil, or_false] at hk
    rcases hk with rfl | rfl | rfl | rfl <;> decide +kernel
  have he : PyData.eqv (.list [.str k, .int 1]) (.list [.str k, .int 1]) = true := by simp [PyData.eqv, PyData.eqvAll]
  have := keq_at r1 r2 hs hs hu
  rwa [he] at this
theorem arrs_hits {h₀ : Heap} {L : Addr} {news : List (Addr × Obj)} (N : News h₀ L s.heap news) (ha : ArrsOK news kvsA) (hw : ∀ x ∈ ws, x ∈ names8 ++ zs3 ++ as5) (nd : (kvsA.map (·.1)).Nodup) {gp : List (Str × Value)} (hg : GridsIn news gp) (hgk : gp.map (·.1) = gridK kvsL ws kvsA)
    (n1 : ((storeAll [] (selA kvsL kvsA (someW ws))).map (·.1)).Nodup) (n2 : ((storeAll [] gp).map (·.1)).Nodup) (hu : A.in1.units + 64 < cLine) :
    KeqHits A.in1 s (storeAll [] gp) (storeAll [] (selA kvsL kvsA (someW ws))) true ∧ (storeAll [] (selA kvsL kvsA (someW ws))).length = (storeAll [] gp).length := by
  have ng : (gp.map (·.1)).Nodup := by rw [hgk]; exact gridK_nodup nd
  have eg : storeAll [] gp = gp := storeAll_same gp ng
  rw [eg] at n2 ⊢
  refine ⟨hits_all fun k v m => ?_, dict_len n1 n2 fun k => ?_⟩
  · have hv := valueAt_of_mem n1 m
    rw [arrs_at ha hw] at hv
    split at hv
    · rename_i hk
      obtain ⟨h4, q1, t, u, rfl, m1⟩ := ha _ _ hv
      rw [← hgk] at hk
      obtain ⟨y, hy⟩ := Option.isSome_iff_exists.mp (valueAt_keys.mpr hk)
      obtain ⟨q2, t', u', rfl, m2⟩ := hg _ _ (valueAt_mem hy)
      exact ⟨_, hy, row_eq N h4 m1 m2 hu⟩
    · cases hv
  · rw [arrs_at ha hw]
    by_cases hk : k ∈ gridK kvsL ws kvsA
    · rw [if_pos hk, (gridK_mem.mp hk).1, valueAt_keys.mpr (by rw [hgk]; exact hk)]
    · rw [if_neg hk]
      cases hv : (valueAt gp k).isSome with
      | false => rfl
      | true => exact absurd (by rw [← hgk]; exact valueAt_keys.mp hv) hk
end
/-! the program -/
theorem SameV.at {a b : List (Int × Value)} (h : SameV a b) : ∀ {n : Int} {v : Value}, (n, v) ∈ a → ∃ x t t', v = .str x t ∧ (n, .str x t') ∈ b := by
  induction h with
  | nil => intro n v m; cases m
  | cons k x t t' _ ih =>
    intro n v m
    rcases List.mem_cons.mp m with e | m
    · cases e; exact ⟨x, t, t', rfl, .head _⟩
    · obtain ⟨y, u, u', e, m⟩ := ih m
      exact ⟨y, u, u', e, .tail _ m⟩
theorem SameV.hits {A : Around} {s : Shared} {a b c : List (Int × Value)} (h : SameV a c) (k : SameV b c) (nb : (b.map (·.1)).Nodup) : KeqHits A s b a true ∧ a.length = b.length := by
  have hab := h.trans k.symm
  refine ⟨hits_all fun n v m => ?_, hab.len⟩
  obtain ⟨x, t, t', rfl, m2⟩ := hab.at m
  refine ⟨_, valueAt_of_mem nb m2, ?_⟩
  have := SeqAt.EqAt.str_str (A := A) (s := s) x t x t'
  rwa [beq_self_eq_true] at this

/-! PlainR -/
/-- what stays of a world, as data -/
def stayD : PyData := .list [.dict [(.str (Str.ofString "F"), .str (Str.ofString "ab"))], .dict [(.int 1, .dict [(.str (Str.ofString "mode"), .str (Str.ofString "R")), (.str (Str.ofString "name"), .str (Str.ofString "F"))])], .dict [(.str (Str.ofString "F$"), .tuple [.int 1, .int 0, .int 2])],
  .list [.str (Str.ofString "one")], .str (Str.ofString "two"), .list [.str (Str.ofString "in")], .int 1, .int 77, .int 5, .bool true, .list [.int 10, .int 40]]
section
variable {prog : Program} {w : World} {A : Around} {E Q : Value → Shared → Prop} {s : Shared} {h₀ h : Heap} {L : Addr} {m : Str → Option Value} {news rest : List (Addr × Obj)}
theorem key_str {k : Str} {key : Value} (e : (PySem.strKind prog w).is k key = true) : Reads h key (.str k) [] := by
  obtain ⟨t, rfl⟩ := Value.isStrOf_shape e
  exact .str _ _
theorem key_int {k : Int} {key : Value} (e : (PySem.intKind prog w).is k key = true) : Reads h key (.int k) [] := by
  obtain ⟨t, rfl⟩ := Value.isInt_shape e
  exact .int _ _
theorem reads_stays {q fiA opA feA ouA inA trA : Addr} {t1 t2 t3 t4 : Tok} (N : News h₀ L h news) (hq : (q, W.listOf #[.ref fiA, .ref opA, .ref feA, .ref ouA, .str (Str.ofString "two") t1, .ref inA, .int 1 t2, .int 77 t3, .int 5 t4, .bool true, .ref trA] 0) ∈ news)
    (St : Stays prog w rest fiA opA feA ouA inA trA) (hs : ∀ p ∈ rest, p ∈ news) (hno : ∀ p ∈ rest, p.1 ≠ sysModules) (hqn : q ≠ sysModules) : ∃ as, Reads h (.ref q) stayD as ∧ sysModules ∉ as := by
  obtain ⟨oFi, oOp, oOm, oFe, omA, ftA, a, b, c, d, e, f, g, hh, i, j, ⟨m1, m2, m3, m4, m5, m6, m7, m8⟩, d1, d2, d3, d4, _⟩ := St
  have r1 : Reads h (.ref fiA) (.dict [(.str (Str.ofString "F"), .str (Str.ofString "ab"))]) [fiA] := PyProof.V.reads_dictOf (enc := PyData.str) (fun k key e => key_str e) (Heap.dictOf_iff.mpr ⟨_, (N _ (hs _ m1)).1, d1⟩) (.cons (as := []) (.str _ _) .nil)
  have r3 : Reads h (.ref omA) (.dict [(.str (Str.ofString "mode"), .str (Str.ofString "R")), (.str (Str.ofString "name"), .str (Str.ofString "F"))]) [omA] := PyProof.V.reads_dictOf (enc := PyData.str) (fun k key e => key_str e) (Heap.dictOf_iff.mpr ⟨_, (N _ (hs _ m3)).1, d3⟩) (.cons (as := []) (.str _ _) (.cons (as := []) (.str _ _) .nil))
  have r2 : Reads h (.ref opA) (.dict [(.int 1, .dict [(.str (Str.ofString "mode"), .str (Str.ofString "R")), (.str (Str.ofString "name"), .str (Str.ofString "F"))])]) [opA, omA] := PyProof.V.reads_dictOf (enc := PyData.int) (fun k key e => key_int e) (Heap.dictOf_iff.mpr ⟨_, (N _ (hs _ m2)).1, d2⟩) (.cons (as := [omA]) r3 .nil)
  have r5 : Reads h (.ref ftA) (.tuple [.int 1, .int 0, .int 2]) [] := .tuple (N _ (hs _ m5)).1 rfl rfl (.cons (as := []) (.int _ _) (.cons (as := []) (.int _ _) (.cons (as := []) (.int _ _) .nil)))
  have r4 : Reads h (.ref feA) (.dict [(.str (Str.ofString "F$"), .tuple [.int 1, .int 0, .int 2])]) [feA] := PyProof.V.reads_dictOf (enc := PyData.str) (fun k key e => key_str e) (Heap.dictOf_iff.mpr ⟨_, (N _ (hs _ m4)).1, d4⟩) (.cons (as := []) r5 .nil)
  have r6 : Reads h (.ref ouA) (.list [.str (Str.ofString "one")]) [ouA] := .list (N _ (hs _ m6)).1 rfl rfl (.cons (as := []) (.str _ _) .nil)
  have r7 : Reads h (.ref inA) (.list [.str (Str.ofString "in")]) [inA] := .list (N _ (hs _ m7)).1 rfl rfl (.cons (as := []) (.str _ _) .nil)
  have r8 : Reads h (.ref trA) (.list [.int 10, .int 40]) [trA] := .list (N _ (hs _ m8)).1 rfl rfl (.cons (as := []) (.int _ _) (.cons (as := []) (.int _ _) .nil))
  refine ⟨_, .list (N _ hq).1 rfl rfl (.cons r1 (.cons r2 (.cons r4 (.cons r6 (.cons (.str _ _) (.cons r7 (.cons (.int _ _) (.cons (.int _ _) (.cons (.int _ _) (.cons (.bool _) (.cons r8 .nil))))))))))), ?_⟩
  have n1 := hno _ m1; have n2 := hno _ m2; have n3 := hno _ m3; have n4 := hno _ m4; have n6 := hno _ m6; have n7 := hno _ m7; have n8 := hno _ m8
  simp only [List.cons_append, List.nil_append, List.mem_cons, List.not_mem_nil, or_false, not_or]
  exact ⟨Ne.symm hqn, Ne.symm n1, Ne.symm n2, Ne.symm n3, Ne.symm n4, Ne.symm n6, Ne.symm n7, Ne.symm n8⟩
theorem repr_stays {q fiA opA feA ouA inA trA : Addr} {t1 t2 t3 t4 : Tok} (F : Fr h₀ L s.heap m) (N : News h₀ L s.heap news) (hq : (q, W.listOf #[.ref fiA, .ref opA, .ref feA, .ref ouA, .str (Str.ofString "two") t1, .ref inA, .int 1 t2, .int 77 t3, .int 5 t4, .bool true, .ref trA] 0) ∈ news)
    (St : Stays prog w rest fiA opA feA ouA inA trA) (hs : ∀ p ∈ rest, p ∈ news) (hno : ∀ p ∈ rest, p.1 ≠ sysModules) (hqn : q ≠ sysModules) (hg : A.guards = some []) (hu : A.units + 10 < cLine)
    (k : ∀ h' u tk', Fr h₀ L h' m → News h₀ L h' news → Q (.str stayD.shown u) { s with heap := h', toks := tk' }) :
    wpAny (model prog w) A (call (.builtin "repr") [.ref q]) Q E s := by
  obtain ⟨as, r, hn⟩ := reads_stays N hq St hs hno hqn
  have hdp : stayD.depth = 3 := by decide +kernel
  refine repr_of_reads' r (by decide +kernel) (fun _ => hn) hg (by rw [hdp]; omega) (fun _ _ e => e) (fun h' u tk' hk => k h' u tk' (F.keeps hk) (N.keepsAll hk)) (hsz := by decide +kernel)
end

/-! PlainE -/
theorem sys_off {a : Addr} (h : @LT.lt Nat _ 1 a) : a ≠ sysModules := Nat.ne_of_gt h
theorem off1_mem {D : Addr} : ∀ {nw : List (Addr × Obj)}, LCg.Off1 D nw → ∀ p ∈ nw, p.1 ≠ D
  | [], _, _, h => nomatch h
  | _ :: _, h, p, hp => by
    rcases List.mem_cons.mp hp with rfl | hp
    · exact h.1
    · exact off1_mem h.2 p hp
theorem dict_nil_any {p p' : Program} {w w' : World} {o : Obj} (h : o.IsDictOf (PySem.strKind p w) []) : o.IsDictOf (PySem.strKind p' w') [] := by
  obtain ⟨es, ep, h1, h2, _, h4, h5⟩ := h
  have e : es.toList = [] := by cases hx : es.toList with
    | nil => rfl
    | cons a r => rw [hx] at h4; cases h4
  refine ⟨es, ep, h1, h2, ?_, by rw [e]; exact .nil, h5⟩
  intro x hx
  have : x ∈ es.toList := by simpa using hx
  rw [e] at this
  cases this
inductive EqAll (A : Around) (s : Shared) : List Value → List Value → Prop
  | nil : EqAll A s [] []
  | cons {x y : Value} {xs ys : List Value} : SeqAt.EqAt A s x y true → EqAll A s xs ys → EqAll A s (x :: xs) (y :: ys)
theorem EqAll.at {A : Around} {s : Shared} {xs ys : List Value} (h : EqAll A s xs ys) : ∀ j (h1 : j < xs.length) (h2 : j < ys.length), SeqAt.EqAt A s xs[j] ys[j] true := by
  induction h with
  | nil => intro j h1; exact absurd h1 (Nat.not_lt_zero _)
  | cons e _ ih =>
    intro j h1 h2
    cases j with
    | zero => exact e
    | succ j => exact ih j (by simpa using h1) (by simpa using h2)
theorem EqAll.len {A : Around} {s : Shared} {xs ys : List Value} (h : EqAll A s xs ys) : xs.length = ys.length := by
  induction h with
  | nil => rfl
  | cons _ _ ih => simp [ih]
section
variable {prog : Program} {w : World} {A : Around} {E Q : Value → Shared → Prop} {s : Shared} {h₀ : Heap} {L : Addr} {m : Str → Option Value} {news : List (Addr × Obj)} {a b : Addr}
/-- two lists of items that are equal, asked whether they are not -/
theorem ne_lists_K {xs ys : List Value} {n1 n2 : Nat} (N : News h₀ L s.heap news) (m1 : (a, W.listOf xs.toArray n1) ∈ news) (m2 : (b, W.listOf ys.toArray n2) ∈ news) (he : EqAll A.in1 s xs ys) (hu : A.units < cLine)
    (h : Q (.bool false) s) : wpAny (model prog w) A (compareOp .NotEq (.ref a) (.ref b)) Q E s := by
  have := SeqAt.RcNeAt.lists (A := A) (s := s) (e := fun _ => true) (l := a) (b := b) (items := xs.toArray) (items2 := ys.toArray) ⟨_, (N _ m1).1, rfl, _, rfl⟩ ⟨_, (N _ m2).1, rfl, _, rfl⟩ (by simpa using he.len) hu (fun j h1 h2 => by simpa using he.at j (by simpa using h1) (by simpa using h2))
  have e : (!(List.range xs.toArray.size).all fun _ => true) = false := by simp
  rw [e] at this
  exact this prog w E Q h
theorem eqInt (a : Int) (t u : Tok) : SeqAt.EqAt A s (.int a t) (.int a u) true := by have := SeqAt.EqAt.int_int (A := A) (s := s) a t a u; rwa [beq_self_eq_true] at this
theorem eqStr (a : Str) (t u : Tok) : SeqAt.EqAt A s (.str a t) (.str a u) true := by have := SeqAt.EqAt.str_str (A := A) (s := s) a t a u; rwa [beq_self_eq_true] at this
theorem eqNil {n1 n2 : Nat} (N : News h₀ L s.heap news) (m1 : (a, W.listOf #[] n1) ∈ news) (m2 : (b, W.listOf #[] n2) ∈ news) (hu : A.in1.units + 64 < cLine) : SeqAt.EqAt A.in1 s (.ref a) (.ref b) true := by
  have r1 : Reads s.heap (.ref a) (.list []) [a] := .list (N _ m1).1 rfl rfl .nil
  have r2 : Reads s.heap (.ref b) (.list []) [b] := .list (N _ m2).1 rfl rfl .nil
  have := keq_at r1 r2 (by decide +kernel) (by decide +kernel) hu
  rwa [show PyData.eqv (.list []) (.list []) = true by decide +kernel] at this
theorem eqDict {oa ob : Obj} (N : News h₀ L s.heap news) (m1 : (a, oa) ∈ news) (m2 : (b, ob) ∈ news) (d1 : oa.IsDictOf (PySem.strKind prog w) []) (d2 : ob.IsDictOf (PySem.strKind prog w) []) (la : (a == sysModules) = false) (lb : (b == sysModules) = false) (hne : @Ne Nat a b) (hu : A.units < cLine) : SeqAt.EqAt A s (.ref a) (.ref b) true :=
  .of_refs hne fun prog' w' E Q hq => keq_pairs (knd := PySem.strKind prog' w') (r := true) N m1 m2 (dict_nil_any d1) (dict_nil_any d2) la lb rfl hu .nil hq
theorem ne_names_K {oa ob : Obj} {kvsL kvsN : List (Str × Value)} {ws : List Str} {led : List (Addr × Obj)} (N : News h₀ L s.heap news) (m1 : (a, oa) ∈ news) (m2 : (b, ob) ∈ news) (d1 : oa.IsDictOf (PySem.strKind prog w) (storeAll [] (selP kvsN (plainW kvsL ws)))) (d2 : ob.IsDictOf (PySem.strKind prog w) (storeAll [] (dueP kvsL ws kvsN)))
    (hn : NamesOK led kvsN) (nd : (kvsN.map (·.1)).Nodup) (la : (a == sysModules) = false) (lb : (b == sysModules) = false) (hu : A.units < cLine) (h : Q (.bool false) s) : wpAny (model prog w) A (compareOp .NotEq (.ref a) (.ref b)) Q E s :=
  have z := names_hits (A := A.in1) (s := s) hn nd (nodup_of d1) (nodup_of d2)
  kne_pairs (r := true) N m1 m2 d1 d2 la lb z.2 hu z.1 h
theorem ne_arrs_K {oa ob : Obj} {kvsL kvsA gp : List (Str × Value)} {ws : List Str} {led : List (Addr × Obj)} (N : News h₀ L s.heap news) (m1 : (a, oa) ∈ news) (m2 : (b, ob) ∈ news) (d1 : oa.IsDictOf (PySem.strKind prog w) (storeAll [] (selA kvsL kvsA (someW ws)))) (d2 : ob.IsDictOf (PySem.strKind prog w) (storeAll [] gp))
    (ha : ArrsOK led kvsA) (hl : ∀ p ∈ led, p ∈ news) (hw : ∀ x ∈ ws, x ∈ names8 ++ zs3 ++ as5) (nd : (kvsA.map (·.1)).Nodup) (hg : GridsIn led gp) (hgk : gp.map (·.1) = gridK kvsL ws kvsA) (la : (a == sysModules) = false) (lb : (b == sysModules) = false) (hu : A.in1.units + 64 < cLine) (hu2 : A.units < cLine) (h : Q (.bool false) s) : wpAny (model prog w) A (compareOp .NotEq (.ref a) (.ref b)) Q E s :=
  have z := arrs_hits (A := A) (s := s) N (ha.mono hl) hw nd (hg.mono hl) hgk (nodup_of d1) (nodup_of d2) hu
  kne_pairs (r := true) N m1 m2 d1 d2 la lb z.2 hu2 z.1 h
theorem eq_prog_K {oa ob : Obj} {k1 k2 c : List (Int × Value)} (N : News h₀ L s.heap news) (m1 : (a, oa) ∈ news) (m2 : (b, ob) ∈ news) (d1 : oa.IsDictOf (PySem.intKind prog w) k1) (d2 : ob.IsDictOf (PySem.intKind prog w) k2) (h1 : SameV k1 c) (h2 : SameV k2 c) (la : (a == sysModules) = false) (lb : (b == sysModules) = false) (hu : A.units < cLine) (h : Q (.bool true) s) : wpAny (model prog w) A (compareOp .Eq (.ref a) (.ref b)) Q E s :=
  have z := h1.hits (A := A.in1) (s := s) h2 (nodup_of d2)
  keq_pairs (r := true) N m1 m2 d1 d2 la lb z.2 hu z.1 h
theorem nes_same {x : Str} {t u : Tok} (h : Q (.bool false) s) : wpAny (model prog w) A (compareOp .NotEq (.str x t) (.str x u)) Q E s := P.ne_str (by rw [bne_self_eq_false]; exact h)
theorem nei_same {x : Int} {t u : Tok} (h : Q (.bool false) s) : wpAny (model prog w) A (compareOp .NotEq (.int x t) (.int x u)) Q E s := P.ne_int (by rw [bne_self_eq_false]; exact h)
theorem ne_pair {i j : Int} {t u t' u' : Tok} (N : News h₀ L s.heap news) (m1 : (a, tupOf [.int i t, .int j u]) ∈ news) (m2 : (b, tupOf [.int i t', .int j u']) ∈ news) (hu : A.units + 64 < cLine) (h : Q (.bool false) s) : wpAny (model prog w) A (compareOp .NotEq (.ref a) (.ref b)) Q E s := by
  have r1 : Reads s.heap (.ref a) (.tuple [.int i, .int j]) [] := .tuple (N _ m1).1 rfl rfl (.cons (as := []) (.int _ _) (.cons (as := []) (.int _ _) .nil))
  have r2 : Reads s.heap (.ref b) (.tuple [.int i, .int j]) [] := .tuple (N _ m2).1 rfl rfl (.cons (as := []) (.int _ _) (.cons (as := []) (.int _ _) .nil))
  have hs : SeqAt.shaped (.tuple [.int i, .int j]) = true := by
    have : PyData.depth (.tuple [.int i, .int j]) = 1 := by simp [PyData.depth, PyData.depthAll]
    simp [SeqAt.shaped, PyData.canLay0, PyData.canLayAll0, this]
  refine ne_dataH r1 r2 hs hs hu ?_
  rw [show PyData.eqv (.tuple [.int i, .int j]) (.tuple [.int i, .int j]) = true by simp [PyData.eqv, PyData.eqvAll]]
  exact h
theorem ne_val {v : Value} {led : List (Addr × Obj)} (N : News h₀ L s.heap news) (hv : ValOK led v) (hl : ∀ p ∈ led, p ∈ news) (hu : A.units + 64 < cLine) (h : Q (.bool false) s) : wpAny (model prog w) A (compareOp .NotEq v v) Q E s := by
  rcases hv with ⟨i, t, rfl⟩ | ⟨x, t, rfl⟩ | ⟨q, i, t, j, u, rfl, hm⟩
  · exact nei_same h
  · exact nes_same h
  · exact ne_pair N (hl _ hm) (hl _ hm) hu h
/-- dict(due).get(name, first) -/
theorem get_due {d : Addr} {o : Obj} {x : Str} {t : Tok} {dflt : Value} {kvsL kvsN : List (Str × Value)} {ws : List Str} {led : List (Addr × Obj)} (N : News h₀ L s.heap news) (hp : (d, o) ∈ news) (hd : o.IsDictOf (PySem.strKind prog w) (storeAll [] (dueP kvsL ws kvsN))) (lo : (d == sysModules) = false) (hn : NamesOK led kvsN) (nd : (kvsN.map (·.1)).Nodup) (y : Option Value)
    (hy : valueAt (storeAll [] (selP kvsN (plainW kvsL ws))) x = y) (h : Q (y.getD dflt) { s with toks := s.toks + 1 }) : wpAny (model prog w) A (call (.builtin "dict.get") [.ref d, .str x t, dflt]) Q E s :=
  kdg_get2 (knd := PySem.strKind prog w) N hp hd lo (strKind_is _ _ _ _) y (by rw [← names_at hn nd]; exact hy) h
end
theorem names_ok {kvsL kvsN : List (Str × Value)} {ws : List Str} {led : List (Addr × Obj)} (hn : NamesOK led kvsN) (nd : (kvsN.map (·.1)).Nodup) {k : Str} {v : Value} (h : valueAt (storeAll [] (selP kvsN (plainW kvsL ws))) k = some v) : ValOK led v := by
  rw [names_at hn nd] at h
  exact (hn _ _ (names_mem nd h)).2
theorem name_keys {kvsN : List (Str × Value)} {led : List (Addr × Obj)} (hn : NamesOK led kvsN) {x : Str} (h : x ∈ kvsN.map (·.1)) : x ∈ names8 := by
  obtain ⟨v, hv⟩ := Option.isSome_iff_exists.mp (valueAt_keys.mpr h)
  exact (hn _ _ hv).1
theorem words_in {kvsN : List (Str × Value)} {led : List (Addr × Obj)} (hn : NamesOK led kvsN) {ws : List Str} (h : ∀ x ∈ ws, x ∈ kvsN.map (·.1) ++ zs3 ++ as5) : ∀ x ∈ ws, x ∈ names8 ++ zs3 ++ as5 := by
  intro x hx
  have := h x hx
  simp only [List.mem_append] at this ⊢
  rcases this with (h1 | h1) | h1
  · exact .inl (.inl (name_keys hn h1))
  · exact .inl (.inr h1)
  · exact .inr h1
theorem words_len {x : Str} (h : x ∈ names8 ++ zs3 ++ as5) : 0 < x.length ∧ x.length ≤ 100 := by
  have h' : x ∈ [Str.ofString "A", Str.ofString "AB", Str.ofString "B", Str.ofString "B$", Str.ofString "C%", Str.ofString "I", Str.ofString "I!", Str.ofString "S$", Str.ofString "Z", Str.ofString "Z$", Str.ofString "Z%", Str.ofString "A()", Str.ofString "I()", Str.ofString "I%()", Str.ofString "S()", Str.ofString "Z()"] := h
  simp only [List.mem_cons, List.not_mem_nil, or_false] at h'
  rcases h' with rfl | rfl | rfl | rfl | rfl | rfl | rfl | rfl | rfl | rfl | rfl | rfl | rfl | rfl | rfl | rfl
  all_goals exact ⟨by decide +kernel, by decide +kernel⟩

structure Box9 (P : Prop) : Prop where
  out : P
structure Pk1 (S : Prop) where
  P1 : Prop
  go9 : Box9 P1 → S
structure Pk2 (S : Prop) where
  P1 : Prop
  P2 : Prop
  go9 : Box9 P1 → Box9 P2 → S
structure Pk3 (S : Prop) where
  P1 : Prop
  P2 : Prop
  P3 : Prop
  go9 : Box9 P1 → Box9 P2 → Box9 P3 → S
structure Pk4 (S : Prop) where
  P1 : Prop
  P2 : Prop
  P3 : Prop
  P4 : Prop
  go9 : Box9 P1 → Box9 P2 → Box9 P3 → Box9 P4 → S

/-! WInit -/
set_option hygiene false in
local macro_rules | `(tactic| walk_at "pyIter ref") => `(tactic| (k_here; (with_reducible show wpAny _ _ (pyIter (Value.ref _)) (fun it s₂ => TurnsAt _ _ _ _ _ _ _ _ _ it s₂) _ _); k_dflt (first
  | (refine' iter_tupTurns ?h ?F ?N ?m ?c ?d ?_; (case h => rfl); (case F => k_asm); (case N => k_asm); (case m => k_mem); (case c => rfl); (case d => rfl))
  | (refine' iter_listTurns ?h ?F ?N ?m ?c ?d ?_; (case h => rfl); (case F => k_asm); (case N => k_asm); (case m => k_mem); (case c => rfl); (case d => rfl))); intro iI lI; (try k_lt lI)))
theorem rows_12 : True := by
  k_with_none
  k_with "my enter" => ((refine wpAny_call ?_; k_dflt (refine' code_defG ?k1 ?k2 ?k3 ?k4 ?k5 ?kA ?kF ?kK ?k6 ?k7 ?k8 ?k9 ?kB ?_ ?c2 ?c3 ?c4 ?c5; (case kA => exact rfl); (case kF => exact rfl); (case kK => assumption); (case k1 => k_asm); (case k2 => k_asm); (case k3 => k_asm); (case k4 => k_asm); (case k5 => k_asm); (case k6 => k_is); (case k7 => k_is); (case k8 => ktr_room); (case k9 => exact BindsTo.of_eq rfl); (case c5 => decide); (case kB => exact locs rfl); (case c2 => exact rfl); (case c3 => exact rfl); (case c4 => exact rfl); k_whole; intro g' L' h' FG' F' N' B' X' T' kG'; (try dsimp only); (try k_lift B'); (try k_fold))))
  k_with "my enterC" => ((refine wpAny_call ?_; k_dflt (refine' code_defC ?k1 ?k2 ?k3 ?k4 ?k5 ?kA ?kF ?kK ?k6 ?k7 ?k8 ?k9 ?kB ?kD ?_ ?c2 ?c3 ?c4; (case kA => exact rfl); (case kF => exact rfl); (case kK => assumption); (case k1 => k_asm); (case k2 => k_asm); (case k3 => k_asm); (case k4 => k_asm); (case k5 => k_asm); (case k6 => k_is); (case k7 => k_is); (case k8 => ktr_room); (case k9 => exact BindsTo.of_eq rfl); (case kB => exact rfl); (case kD => decide +kernel); (case c2 => exact rfl); (case c3 => exact rfl); (case c4 => exact rfl); k_whole; intro g' L' h' tk' cells' FG' F' N' Y' B' X' T' l1; (try k_lt l1); (obtain ⟨oc, hE', d1⟩ := CellsAre.one Y'; subst hE'; clear Y'); (try simp only [List.cons_append, List.nil_append] at N'); (try dsimp only); (try k_lift B'); (try k_fold))))
  k_with "ite" => (first | with_reducible refine ite_tt ?_ | with_reducible refine ite_ff ?_)
  k_with "call ref" => ((k_here; k_dflt (refine' kind_K ?k1 ?k2 ?k3 ?k4 ?k5 ?k6 ?k7 ?k8 ?k9 ?ka ?kb ?kc ?kd ?ke ?_; (case k1 => k_asm); (case k2 => k_asm); (case k3 => k_asm); (case k4 => k_asm); (case k5 => k_asm); (case k6 => first | exact rfl | assumption); (case k7 => k_mem); (case k8 => k_asm); (case k9 => k_asm); (case ka => ktr_room); (case kb => ktr_units); (case kc => first | assumption | omega); (case kd => first | assumption | omega); (case ke => first | assumption | exact allStr_nil); k_whole; intro t' h' tk' F' N' cE')))
  k_with "call ref" => ((k_here; k_dflt (refine' isarr_K ?k1 ?k2 ?k3 ?k4 ?k5 ?k6 ?ka ?kb ?kc ?kd ?_; (case k1 => k_asm); (case k2 => k_asm); (case k3 => k_asm); (case k4 => k_asm); (case k5 => k_asm); (case k6 => first | exact rfl | assumption); (case ka => ktr_room); (case kb => ktr_units); (case kc => first | assumption | omega); (case kd => first | assumption | omega); k_whole; intro h' tk' F' N')))
  k_with "call ref" => ((k_here; k_dflt (refine' means_K ?k1 ?k2 ?k3 ?k4 ?k5 ?k6 ?k7 ?k71 ?k72 ?k73 ?k8 ?k9 ?ka ?kb ?kc ?kd ?ke ?_; (case k1 => k_asm); (case k2 => k_asm); (case k3 => k_asm); (case k4 => k_asm); (case k5 => k_asm); (case k6 => first | exact rfl | assumption); (case k71 => k_mem); (case k72 => k_mem); (case k73 => first | assumption | k_get); (case k7 => k_mem); (case k8 => k_asm); (case k9 => k_asm); (case ka => ktr_room); (case kb => ktr_units); (case kc => first | assumption | omega | exact (hkl _ (by assumption)).1); (case kd => first | assumption | omega | exact (hkl _ (by assumption)).2); (case ke => first | assumption | exact allStr_nil); k_whole; intro h' tk' F' N')))
  k_with "getAttr ref" => ((k_here; k_dflt (refine' get_own ?F ?X ?I ?g ?h ?a ?n ?l ?v ?_; (case F => k_asm); (case X => k_asm); (case I => k_inst); (case g => k_is); (case h => k_is); (case a => k_is); (case n => k_is); (case l => assumption); (case v => k_handed); k_whole)))
  k_with "exec Assign cons ListComp" => ((k_here; k_dflt (refine LCt.Assign_ListComp_T (F₀ := by k_asm) (by rfl) (by with_unfolding_all rfl) (by with_unfolding_all rfl) (by decide) (by rfl) (by decide) (by rfl) (by rfl) (by rfl) ?_)))
  k_with "eval ListComp" => ((k_here; k_dflt (refine LCt.ListComp_T (F₀ := by k_asm) (by with_unfolding_all rfl) (by decide) (by rfl) (by decide) (by rfl) ?_)))
  k_with "compareOp In str ref" => ((k_here; k_dflt (refine kda_in (knd := PySem.strKind _ _) (by k_asm) (by k_mem) (by k_asm) (by k_asm) (strKind_is _ _ _ _) ((valueAt _ _).isSome) (by rfl) ?_)))
  k_with "subscriptTail" => ((k_here; (with_reducible show wpAny _ _ (subscriptTail _ _ (Value.ref _) (Value.str _ _)) _ _ _); (obtain ⟨v9, hv9⟩ := Option.isSome_iff_exists.mp (by assumption : (valueAt _ _).isSome = true)); k_dflt (refine kda_item (knd := PySem.strKind _ _) (by k_asm) (by k_mem) (by k_asm) (strKind_is _ _ _ _) hv9 ?_)))
  k_with "call type:dict" => ((k_here; (with_reducible show wpAny _ _ (call (Value.type "dict") [Value.ref _]) _ _ _); k_dflt (refine' dict_pairs_K ?kh ?k1 ?k2 ?k3 ?k4 ?k5 ?k6 ?_; (case kh => exact rfl); (case k1 => k_asm); (case k2 => k_asm); (case k3 => exact modules_low (Top.nolimit (by k_asm))); (case k4 => k_mem); (case k5 => assumption); (case k6 => omega); k_whole; intro d' o' h' tk' F' N' l1 lo' hd')))
  k_with "call type:list" => ((k_here; (with_reducible show wpAny _ _ (call (Value.type "list") [Value.ref _]) _ _ _); k_dflt (refine' list_items_K ?kh ?k1 ?k2 ?k3 ?k4 ?k5 ?k6 ?_; (case kh => exact rfl); (case k1 => k_asm); (case k2 => k_asm); (case k3 => k_mem); (case k4 => k_mem); (case k5 => k_asm); (case k6 => omega); k_whole; intro lS its9 c9 extra9 h' tk' F' N' hP9)))
  k_with "call type:dict" => ((k_here; (with_reducible show wpAny _ _ (call (Value.type "dict") [Value.ref _]) _ _ _); k_dflt (refine' dict_pairs_drop ?kh ?k1 ?k2 ?k3 ?k4 ?k5 ?k6 ?_; (case kh => exact rfl); (case k1 => k_asm); (case k2 => k_asm); (case k3 => exact modules_low (Top.nolimit (by k_asm))); (case k4 => exact rfl); (case k5 => assumption); (case k6 => omega); k_whole; intro dK oK h' tk' F' N' lK loK hdK; (try simp only [AllLt, and_true] at lK))))
  k_with "call ref" => ((k_here; k_dflt (refine' take_F ?k1 ?k2 ?k3 ?k4 ?k5 ?k6 ?k7 ?k8 ?k9 ?ka ?kb ?kc ?kd ?ke ?kf ?kg ?kh ?_; (case k1 => k_asm); (case k2 => k_asm); (case k3 => k_asm); (case k4 => k_asm); (case k5 => k_asm); (case k6 => first | exact rfl | assumption); (case k7 => k_updF); (case k8 => k_mem); (case k9 => assumption); (case ka => omega); (case kb => omega); (case kc => decide); (case kd => decide); (case ke => omega); (case kf => ktr_room); (case kg => ktr_units); (case kh => assumption); k_whole; intro rr tr tp h' tk' hr0 hr1 F' N'; (try dsimp only at N'))))
  k_with "call ref" => ((k_here; k_dflt (refine' own_K ?k1 ?k2 ?k3 ?k4 ?k5 ?k6 ?k7 ?k8 ?k9 ?ka ?kb ?kc ?kd ?ke ?_; (case k1 => k_asm); (case k2 => k_asm); (case k3 => k_asm); (case k4 => k_asm); (case k5 => k_asm); (case k6 => first | exact rfl | assumption); (case k7 => k_mem); (case k8 => k_asm); (case k9 => k_asm); (case ka => ktr_room); (case kb => ktr_units); (case kc => first | assumption | omega | decide); (case kd => first | assumption | omega | decide); (case ke => first | assumption | exact allStr_nil); k_whole; intro qo to h' tk' F' N' l1; (try simp only [AllLt, and_true] at l1))))
  k_with "cj" => (with_reducible (first | assumption | exact And.right (by first | assumption | exact And.right (by first | assumption | exact And.right (by first | assumption | exact And.right (by first | assumption | exact And.right (by first | assumption | exact And.right (by first | assumption | exact And.right (by first | assumption | exact And.right (by first | assumption | exact And.right (by first | assumption | exact And.right (by first | assumption | exact And.right (by first | assumption | exact And.right (by first | assumption | exact And.right (by first | assumption | exact And.right (by first | assumption | exact And.right (by first | assumption | exact And.right (by first | assumption | exact And.right (by first | assumption | exact And.right (by first | assumption | exact And.right (by first | assumption | exact And.right (by first | assumption | exact And.right (by first | assumption | exact And.right (by first | assumption | exact And.right (by first | assumption | exact And.right (by first | assumption | exact And.right (by first | assumption | exact And.right (by assumption))))))))))))))))))))))))))))
  k_with "ne" => (first | exact Nat.ne_of_gt (by with_reducible assumption) | exact Nat.ne_of_lt (by with_reducible assumption) | exact Nat.ne_of_gt (And.left (by k_extra "cj")) | exact Nat.ne_of_lt (And.left (by k_extra "cj")) | exact Nat.ne_of_gt (by k_extra "cj") | exact Nat.ne_of_lt (by k_extra "cj") | (refine neN ?_; (try dsimp only); omega))
  k_with "all" => (first | exact List.forall_mem_nil _ | (refine' List.forall_mem_cons.mpr ⟨?a, ?b⟩; (case a => first | exact Nat.ne_of_lt (And.left (by k_extra "cj")) | k_ne); (case b => k_all)) | assumption | exact allLt_ne (by k_extra "cj") | exact gt_ne (by assumption) (by first | assumption | omega) | fail "k_all")
  k_with "call ref" => ((k_here; k_dflt (refine' own3_K ?k1 ?k2 ?k3 ?k4 ?k5 ?k6 ?k7 ?k8 ?k9 ?ka ?kb ?kc ?kd ?ke ?_ ?_ ?_; (case k1 => k_asm); (case k2 => k_asm); (case k3 => k_asm); (case k4 => k_asm); (case k5 => k_asm); (case k6 => first | exact rfl | assumption); (case k7 => k_mem); (case k8 => k_asm); (case k9 => k_asm); (case ka => ktr_room); (case kb => ktr_units); (case kc => first | assumption | omega | decide); (case kd => first | assumption | omega | decide); (case ke => first | assumption | exact K3.nil); k_whole; all_goals (intro qo to h' tk' eO9 F' N' l1; (try simp only [AllLt, and_true] at l1)))))
  k_with "eval Dict" => ((k_here; k_dflt (first
        | (refine' kdn_str ?q ?F ?N ?b ?a ?l ?e ?n ?_; (case q => rfl); (case F => k_asm); (case N => first | k_asm | exact News.nil); (case b => exact Top.nolimit (by k_asm)); (case a => rfl); (case l => rfl); (case e => exact List.cons_ne_nil _ _); (case n => exact Nat.le_of_ble_eq_true rfl))
        | (refine' kdn_int ?q ?F ?N ?b ?a ?l ?e ?n ?_; (case q => rfl); (case F => k_asm); (case N => first | k_asm | exact News.nil); (case b => exact Top.nolimit (by k_asm)); (case a => rfl); (case l => rfl); (case e => exact List.cons_ne_nil _ _); (case n => exact Nat.le_of_ble_eq_true rfl))); intro d' h' o' F' N' l1 lo' hd'; (try k_lt l1)))
  k_with "setItem ref str" => ((k_here; k_dflt (refine' kda_set (knd := PySem.strKind _ _) ?F ?N ?U ?d (strKind_is _ _ _ _) ?z ?_; (case F => k_asm); (case N => k_asm); (case U => k_updF); (case d => assumption); (case z => rw [sizeLine_eq]; omega)); intro h' o' F' N' hdS'; (try dsimp only at N')))
  k_with "my sub" => (((repeat (refine List.forall_mem_cons.mpr ⟨by k_mem, ?_⟩)); first | exact List.forall_mem_nil _ | (intro p hp; repeat (first | exact hp | refine List.Mem.tail _ ?_))))
  k_with "execs cons" => (first | (k_here; k_gentoks) | ((with_reducible refine wpAny_execs_cons ?_); try dsimp only))
  k_with "assignInOrder" => ((dsimp only; walk_at "assignInOrder"))
  k_with "enter" => (first
        | (refine' code_def ?k1 ?k2 ?k3 ?k4 ?k5 ?kA ?kF ?kK ?k6 ?k7 ?k8 ?k9 ?kB ?_ ?c2 ?c3 ?c4 ?c5; (case kA => exact rfl); (case kF => exact rfl); (case kK => first | exact rfl | assumption); (case k1 => k_asm); (case k2 => k_asm); (case k3 => k_asm); (case k4 => k_asm); (case k5 => k_asm); (case k6 => k_is); (case k7 => k_is); (case k8 => ktr_room); (case k9 => first | exact BindsTo.of_eq rfl | exact binds_K (by k_in) rfl (by k_is) rfl rfl rfl | fail "k_enter: no rule for these arguments"); (case c5 => decide); (case kB => exact locs rfl); (case c2 => exact rfl); (case c3 => exact rfl); (case c4 => exact rfl); k_whole; intro g' L' h' FG' F' N' B' X' T'; (try dsimp only); (try k_lift B'); (try k_fold)))
  k_with "my go" => (repeat' ((fail_if_success with_reducible refine strRest_at ?_); (fail_if_success with_reducible refine itemsRest_at ?_); first | (k_unfold; (try dsimp only)) | walk1 | (dsimp only; walk1) | fail "no step"))
  k_with "setAttr ref" => ((k_here; k_dflt (refine' set_new_S ?k1 ?k2 ?k3 ?h1 ?h2 ?hne ?k4 ?k5 ?k6 ?k7 ?hA ?hl ?z ?_; (case k1 => k_asm); (case k2 => k_asm); (case k3 => k_asm); (case h1 => k_mem); (case h2 => k_mem); (case hne => k_ne); (case k4 => k_is); (case k5 => k_is); (case k6 => k_is); (case k7 => k_is); (case hA => assumption); (case hl => with_unfolding_all rfl); (case z => exact Nat.le_of_ble_eq_true rfl); k_whole; intro h' es' tk' T' F' N' hT' hx' hsub' hA')))
  k_with "setAttr ref" => ((k_here; k_dflt (refine' set_new_K ?k1 ?k2 ?k3 ?h1 ?h2 ?k4 ?k5 ?k6 ?k7 ?U ?hA ?hl ?z ?_; (case k1 => k_asm); (case k2 => k_asm); (case k3 => k_asm); (case h1 => k_mem); (case h2 => exact List.Mem.head _); (case k4 => k_is); (case k5 => k_is); (case k6 => k_is); (case k7 => k_is); (case U => exact UpdF.head (by assumption)); (case hA => assumption); (case hl => with_unfolding_all rfl); (case z => exact Nat.le_of_ble_eq_true rfl); k_whole; intro h' es' tk' F' N' hA'; (try dsimp only at N'))))
  k_with "my tl" => (repeat (first | exact hp | refine List.Mem.tail _ ?_))
  trivial
section
variable {w : World} {mean : ExcName → Option Value} {mg mb : Str → Option Value} {dp un : Nat} {gd : Option (List Code)} {cn : Str} {cs : Scope} {a : Addr} {ccd : Value} {cl : List (Str × Addr)} {outer : List Env} {A₀ : Around} {base h₀ : Heap} {L : Addr} {m : Str → Option Value} {s : Shared} {Q E : Value → Shared → Prop} {news news' : List (Addr × Obj)}
theorem winit_K
    (B : Below A₀ base outer h₀) (F : Fr h₀ L s.heap m) (X : (hd.heap_39 w.params).In h₀) (N : News h₀ L s.heap news)
    (T : Top hd.view_39 (looseW hd.view_39 [Str.ofString "BasicError"]) mean mg mb h₀) (hk : cs.kind = .function)
    (hd : dp + 2 < recursionLimit) (_hu : un + 16 < cLine)
    (ret : ∀ (x dx nA aA kA fA ouA inA fiA opA feA daA trA coA : Addr) (oN oA : Obj) (es : List DictEntry) (rw ec : Str) (t1 t2 t3 t4 t5 t6 t7 t8 t9 : Tok) h' tk', Fr h₀ L h' m → News h₀ L h' ((aA, oA) :: (nA, oN) :: (x, instObj 114 dx) :: (dx, dictOf es 28) :: news) → oN.IsDictOf (PySem.strKind PySem.Challenge.rw_pf0005_01.row.prog w) [] → oA.IsDictOf (PySem.strKind PySem.Challenge.rw_pf0005_01.row.prog w) [] → (nA == sysModules) = false → (aA == sysModules) = false → (AllLt dx news ∧ @LT.lt Nat _ dx x ∧ @LT.lt Nat _ x nA ∧ @LT.lt Nat _ nA aA) → es.length = 28 →
      HasA es [(Str.ofString "names", .ref nA), (Str.ofString "arrays", .ref aA), (Str.ofString "kinds", .ref kA), (Str.ofString "fns", .ref fA), (Str.ofString "out", .ref ouA), (Str.ofString "row", .str rw t1), (Str.ofString "inputs", .ref inA), (Str.ofString "files", .ref fiA), (Str.ofString "open", .ref opA), (Str.ofString "fields", .ref feA), (Str.ofString "data", .ref daA), (Str.ofString "spot", .int 0 t2), (Str.ofString "base", .int 0 t3), (Str.ofString "seed", .int 1 t4), (Str.ofString "steps", .int 0 t5), (Str.ofString "depth", .int 0 t6), (Str.ofString "handler", .int 0 t7), (Str.ofString "is_handling", .bool false), (Str.ofString "error_line", .int 0 t8), (Str.ofString "error_code", .str ec t9), (Str.ofString "is_traced", .bool false), (Str.ofString "traces", .ref trA), (Str.ofString "common", .ref coA)] → Q (.ref x) { s with heap := h', toks := tk' }) :
    wpAny (model PySem.Challenge.rw_pf0005_01.row.prog w) (ktrTop dp un gd cn cs L a ccd cl outer) (call (.ref 114) []) Q E s := by
  have hF0 := FullA.nil
  walk_at "my go"
  rename_i x_y1 d_y1 h_y1 F_y1 N_y1 l1_y1 l2_y1 h_y2 T_y1 h_y3 es_y1 tk_y1 T_y2 hT_y1 hx_y1 hsub_y1 hA_y1 h_y4 es_y2 tk_y2 hA_y2 h_y5 es_y3 tk_y3 hA_y3 h_y6 es_y4 tk_y4 hA_y4 h_y7 es_y5 tk_y5 hA_y5 d_y2 h_y8 o_y1 lo_y1 hs_y1 fs_y1 hi_y1 fi_y1 l1_y2 h_y9 es_y6 tk_y6 T_y3 hT_y2 hx_y2 hsub_y2 hA_y6 d_y3 h_y10 o_y2 lo_y2 hs_y2 fs_y2 hi_y2 fi_y2 l1_y3 h_y11 es_y7 tk_y7 T_y4 hT_y3 hx_y3 hsub_y3 hA_y7 d_y4 h_y12 o_y3 lo_y3 hs_y3 fs_y3 hi_y3 fi_y3 l1_y4 h_y13 es_y8 tk_y8 T_y5 hT_y4 hx_y4 hsub_y4 hA_y8 d_y5 h_y14 o_y4 lo_y4 hs_y4 fs_y4 hi_y4 fi_y4 l1_y5 h_y15 es_y9 tk_y9 T_y6 hT_y5 hx_y5 hsub_y5 hA_y9 l_y1 h_y16 l1_y6 h_y17 es_y10 tk_y10 T_y7 hT_y6 hx_y6 hsub_y6 hA_y10 h_y18 es_y11 tk_y11 hA_y11 l_y2 h_y19 l1_y7 h_y20 es_y12 tk_y12 T_y8 hT_y7 hx_y7 hsub_y7 hA_y12 d_y6 h_y21 o_y5 lo_y5 hs_y5 fs_y5 hi_y5 fi_y5 l1_y8 h_y22 es_y13 tk_y13 T_y9 hT_y8 hx_y8 hsub_y8 hA_y13 d_y7 h_y23 o_y6 lo_y6 hs_y6 fs_y6 hi_y6 fi_y6 l1_y9 h_y24 es_y14 tk_y14 T_y10 hT_y9 hx_y9 hsub_y9 hA_y14 d_y8 h_y25 o_y7 lo_y7 hs_y7 fs_y7 hi_y7 fi_y7 l1_y10 h_y26 es_y15 tk_y15 T_y11 hT_y10 hx_y10 hsub_y10 hA_y15 l_y3 h_y27 l1_y11 h_y28 es_y16 tk_y16 T_y12 hT_y11 hx_y11 hsub_y11 hA_y16 h_y29 es_y17 tk_y17 hA_y17 h_y30 es_y18 tk_y18 hA_y18 h_y31 es_y19 tk_y19 hA_y19 h_y32 es_y20 tk_y20 hA_y20 h_y33 es_y21 tk_y21 hA_y21 h_y34 es_y22 tk_y22 hA_y22 h_y35 es_y23 tk_y23 hA_y23 h_y36 es_y24 tk_y24 hA_y24 h_y37 es_y25 tk_y25 hA_y25 h_y38 es_y26 tk_y26 hA_y26 l_y4 h_y39 l1_y12 h_y40 es_y27 tk_y27 T_y13 hT_y12 hx_y12 hsub_y12 hA_y27 l_y5 h_y41 F_y2 N_y2 l1_y13 kF_y1 kN_y1 Tc_y1 kX_y1
  have c13 : ∀ p ∈ T_y13, p ∈ T' := fun p hp => hsub' p (by walk_at "my tl") (hT_y12 p hp)
  have c12 : ∀ p ∈ T_y12, p ∈ T' := fun p hp => c13 p (hsub_y12 p (by walk_at "my tl") (hT_y11 p hp))
  have c11 : ∀ p ∈ T_y11, p ∈ T' := fun p hp => c12 p (hsub_y11 p (by walk_at "my tl") (hT_y10 p hp))
  have c10 : ∀ p ∈ T_y10, p ∈ T' := fun p hp => c11 p (hsub_y10 p (by walk_at "my tl") (hT_y9 p hp))
  have c9 : ∀ p ∈ T_y9, p ∈ T' := fun p hp => c10 p (hsub_y9 p (by walk_at "my tl") (hT_y8 p hp))
  have c8 : ∀ p ∈ T_y8, p ∈ T' := fun p hp => c9 p (hsub_y8 p (by walk_at "my tl") (hT_y7 p hp))
  have c7 : ∀ p ∈ T_y7, p ∈ T' := fun p hp => c8 p (hsub_y7 p (by walk_at "my tl") (hT_y6 p hp))
  have c6 : ∀ p ∈ T_y6, p ∈ T' := fun p hp => c7 p (hsub_y6 p (by walk_at "my tl") (hT_y5 p hp))
  have c5 : ∀ p ∈ T_y5, p ∈ T' := fun p hp => c6 p (hsub_y5 p (by walk_at "my tl") (hT_y4 p hp))
  have c4 : ∀ p ∈ T_y4, p ∈ T' := fun p hp => c5 p (hsub_y4 p (by walk_at "my tl") (hT_y3 p hp))
  have c3 : ∀ p ∈ T_y3, p ∈ T' := fun p hp => c4 p (hsub_y3 p (by walk_at "my tl") (hT_y2 p hp))
  have c2 : ∀ p ∈ T_y2, p ∈ T' := fun p hp => c3 p (hsub_y2 p (by walk_at "my tl") (hT_y1 p hp))
  have mA := c4 _ (hsub_y3 (d_y3, _) (by k_mem) (Nat.ne_of_gt l1_y3.1))
  have mN3 := hsub_y2 (d_y2, _) (by k_mem) (Nat.ne_of_gt l1_y2.1)
  have mN := c3 _ mN3
  have mv : ∀ p ∈ news, p ∈ T' := fun p hp => c2 p (hsub_y1 p (by walk_at "my tl") (Nat.ne_of_lt (l1_y1 p hp)))
  refine' ret _ _ _ _ _ _ _ _ _ _ _ _ _ _ o_y1 o_y2 _ _ _ _ _ _ _ _ _ _ _ _ _ _ (by assumption) (fun p hp => kN_y1 p ?sub) ?i1 ?i2 ?s1 ?s2 ⟨allLt_of l1_y1, ?r1, allLt_mem l1_y2.2 hx_y1, allLt_mem l1_y3.2 mN3⟩ hA'.len ?hA
  case hA => exact hA'.has.sub (by repeat (first | exact List.forall_mem_nil _ | refine List.forall_mem_cons.mpr ⟨by with_unfolding_all rfl, ?_⟩))
  case sub => exact (List.forall_mem_cons.mpr ⟨.tail _ mA, List.forall_mem_cons.mpr ⟨.tail _ mN, List.forall_mem_cons.mpr ⟨.tail _ hx', List.forall_mem_cons.mpr ⟨.head _, fun p hp => .tail _ (mv p hp)⟩⟩⟩⟩) p hp
  case i1 => exact hs_y1
  case i2 => exact hs_y2
  case s1 => exact lo_y1
  case s2 => exact lo_y2
  case r1 => exact l2_y1
end

theorem rows_13 : True := by
  k_with_none
  k_with "my enter" => ((refine wpAny_call ?_; k_dflt (refine' code_defG ?k1 ?k2 ?k3 ?k4 ?k5 ?kA ?kF ?kK ?k6 ?k7 ?k8 ?k9 ?kB ?_ ?c2 ?c3 ?c4 ?c5; (case kA => exact rfl); (case kF => exact rfl); (case kK => assumption); (case k1 => k_asm); (case k2 => k_asm); (case k3 => k_asm); (case k4 => k_asm); (case k5 => k_asm); (case k6 => k_is); (case k7 => k_is); (case k8 => ktr_room); (case k9 => exact BindsTo.of_eq rfl); (case c5 => decide); (case kB => exact locs rfl); (case c2 => exact rfl); (case c3 => exact rfl); (case c4 => exact rfl); k_whole; intro g' L' h' FG' F' N' B' X' T' kG'; (try dsimp only); (try k_lift B'); (try k_fold))))
  k_with "my enterC" => ((refine wpAny_call ?_; k_dflt (refine' code_defC ?k1 ?k2 ?k3 ?k4 ?k5 ?kA ?kF ?kK ?k6 ?k7 ?k8 ?k9 ?kB ?kD ?_ ?c2 ?c3 ?c4; (case kA => exact rfl); (case kF => exact rfl); (case kK => assumption); (case k1 => k_asm); (case k2 => k_asm); (case k3 => k_asm); (case k4 => k_asm); (case k5 => k_asm); (case k6 => k_is); (case k7 => k_is); (case k8 => ktr_room); (case k9 => exact BindsTo.of_eq rfl); (case kB => exact rfl); (case kD => decide +kernel); (case c2 => exact rfl); (case c3 => exact rfl); (case c4 => exact rfl); k_whole; intro g' L' h' tk' cells' FG' F' N' Y' B' X' T' l1; (try k_lt l1); (obtain ⟨oc, hE', d1⟩ := CellsAre.one Y'; subst hE'; clear Y'); (try simp only [List.cons_append, List.nil_append] at N'); (try dsimp only); (try k_lift B'); (try k_fold))))
  k_with "ite" => (first | with_reducible refine ite_tt ?_ | with_reducible refine ite_ff ?_)
  k_with "call ref" => ((k_here; k_dflt (refine' kind_K ?k1 ?k2 ?k3 ?k4 ?k5 ?k6 ?k7 ?k8 ?k9 ?ka ?kb ?kc ?kd ?ke ?_; (case k1 => k_asm); (case k2 => k_asm); (case k3 => k_asm); (case k4 => k_asm); (case k5 => k_asm); (case k6 => first | exact rfl | assumption); (case k7 => k_mem); (case k8 => k_asm); (case k9 => k_asm); (case ka => ktr_room); (case kb => ktr_units); (case kc => first | assumption | omega); (case kd => first | assumption | omega); (case ke => first | assumption | exact allStr_nil); k_whole; intro t' h' tk' F' N' cE')))
  k_with "call ref" => ((k_here; k_dflt (refine' isarr_K ?k1 ?k2 ?k3 ?k4 ?k5 ?k6 ?ka ?kb ?kc ?kd ?_; (case k1 => k_asm); (case k2 => k_asm); (case k3 => k_asm); (case k4 => k_asm); (case k5 => k_asm); (case k6 => first | exact rfl | assumption); (case ka => ktr_room); (case kb => ktr_units); (case kc => first | assumption | omega); (case kd => first | assumption | omega); k_whole; intro h' tk' F' N')))
  k_with "call ref" => ((k_here; k_dflt (refine' means_K ?k1 ?k2 ?k3 ?k4 ?k5 ?k6 ?k7 ?k71 ?k72 ?k73 ?k8 ?k9 ?ka ?kb ?kc ?kd ?ke ?_; (case k1 => k_asm); (case k2 => k_asm); (case k3 => k_asm); (case k4 => k_asm); (case k5 => k_asm); (case k6 => first | exact rfl | assumption); (case k71 => k_mem); (case k72 => k_mem); (case k73 => first | assumption | k_get); (case k7 => k_mem); (case k8 => k_asm); (case k9 => k_asm); (case ka => ktr_room); (case kb => ktr_units); (case kc => first | assumption | omega | exact (hkl _ (by assumption)).1); (case kd => first | assumption | omega | exact (hkl _ (by assumption)).2); (case ke => first | assumption | exact allStr_nil); k_whole; intro h' tk' F' N')))
  k_with "getAttr ref" => ((k_here; k_dflt (refine' get_own ?F ?X ?I ?g ?h ?a ?n ?l ?v ?_; (case F => k_asm); (case X => k_asm); (case I => k_inst); (case g => k_is); (case h => k_is); (case a => k_is); (case n => k_is); (case l => assumption); (case v => k_handed); k_whole)))
  k_with "exec Assign cons ListComp" => ((k_here; k_dflt (refine LCt.Assign_ListComp_T (F₀ := by k_asm) (by rfl) (by with_unfolding_all rfl) (by with_unfolding_all rfl) (by decide) (by rfl) (by decide) (by rfl) (by rfl) (by rfl) ?_)))
  k_with "eval ListComp" => ((k_here; k_dflt (refine LCt.ListComp_T (F₀ := by k_asm) (by with_unfolding_all rfl) (by decide) (by rfl) (by decide) (by rfl) ?_)))
  k_with "compareOp In str ref" => ((k_here; k_dflt (refine kda_in (knd := PySem.strKind _ _) (by k_asm) (by k_mem) (by k_asm) (by k_asm) (strKind_is _ _ _ _) ((valueAt _ _).isSome) (by rfl) ?_)))
  k_with "subscriptTail" => ((k_here; (with_reducible show wpAny _ _ (subscriptTail _ _ (Value.ref _) (Value.str _ _)) _ _ _); (obtain ⟨v9, hv9⟩ := Option.isSome_iff_exists.mp (by assumption : (valueAt _ _).isSome = true)); k_dflt (refine kda_item (knd := PySem.strKind _ _) (by k_asm) (by k_mem) (by k_asm) (strKind_is _ _ _ _) hv9 ?_)))
  k_with "call type:dict" => ((k_here; (with_reducible show wpAny _ _ (call (Value.type "dict") [Value.ref _]) _ _ _); k_dflt (refine' dict_pairs_K ?kh ?k1 ?k2 ?k3 ?k4 ?k5 ?k6 ?_; (case kh => exact rfl); (case k1 => k_asm); (case k2 => k_asm); (case k3 => exact modules_low (Top.nolimit (by k_asm))); (case k4 => k_mem); (case k5 => assumption); (case k6 => omega); k_whole; intro d' o' h' tk' F' N' l1 lo' hd')))
  k_with "call type:list" => ((k_here; (with_reducible show wpAny _ _ (call (Value.type "list") [Value.ref _]) _ _ _); k_dflt (refine' list_items_K ?kh ?k1 ?k2 ?k3 ?k4 ?k5 ?k6 ?_; (case kh => exact rfl); (case k1 => k_asm); (case k2 => k_asm); (case k3 => k_mem); (case k4 => k_mem); (case k5 => k_asm); (case k6 => omega); k_whole; intro lS its9 c9 extra9 h' tk' F' N' hP9)))
  k_with "call type:dict" => ((k_here; (with_reducible show wpAny _ _ (call (Value.type "dict") [Value.ref _]) _ _ _); k_dflt (refine' dict_pairs_drop ?kh ?k1 ?k2 ?k3 ?k4 ?k5 ?k6 ?_; (case kh => exact rfl); (case k1 => k_asm); (case k2 => k_asm); (case k3 => exact modules_low (Top.nolimit (by k_asm))); (case k4 => exact rfl); (case k5 => assumption); (case k6 => omega); k_whole; intro dK oK h' tk' F' N' lK loK hdK; (try simp only [AllLt, and_true] at lK))))
  k_with "call ref" => ((k_here; k_dflt (refine' take_F ?k1 ?k2 ?k3 ?k4 ?k5 ?k6 ?k7 ?k8 ?k9 ?ka ?kb ?kc ?kd ?ke ?kf ?kg ?kh ?_; (case k1 => k_asm); (case k2 => k_asm); (case k3 => k_asm); (case k4 => k_asm); (case k5 => k_asm); (case k6 => first | exact rfl | assumption); (case k7 => k_updF); (case k8 => k_mem); (case k9 => assumption); (case ka => omega); (case kb => omega); (case kc => decide); (case kd => decide); (case ke => omega); (case kf => ktr_room); (case kg => ktr_units); (case kh => assumption); k_whole; intro rr tr tp h' tk' hr0 hr1 F' N'; (try dsimp only at N'))))
  k_with "call ref" => ((k_here; k_dflt (refine' own_K ?k1 ?k2 ?k3 ?k4 ?k5 ?k6 ?k7 ?k8 ?k9 ?ka ?kb ?kc ?kd ?ke ?_; (case k1 => k_asm); (case k2 => k_asm); (case k3 => k_asm); (case k4 => k_asm); (case k5 => k_asm); (case k6 => first | exact rfl | assumption); (case k7 => k_mem); (case k8 => k_asm); (case k9 => k_asm); (case ka => ktr_room); (case kb => ktr_units); (case kc => first | assumption | omega | decide); (case kd => first | assumption | omega | decide); (case ke => first | assumption | exact allStr_nil); k_whole; intro qo to h' tk' F' N' l1; (try simp only [AllLt, and_true] at l1))))
  k_with "cj" => (with_reducible (first | assumption | exact And.right (by first | assumption | exact And.right (by first | assumption | exact And.right (by first | assumption | exact And.right (by first | assumption | exact And.right (by first | assumption | exact And.right (by first | assumption | exact And.right (by first | assumption | exact And.right (by first | assumption | exact And.right (by first | assumption | exact And.right (by first | assumption | exact And.right (by first | assumption | exact And.right (by first | assumption | exact And.right (by first | assumption | exact And.right (by first | assumption | exact And.right (by first | assumption | exact And.right (by first | assumption | exact And.right (by first | assumption | exact And.right (by first | assumption | exact And.right (by first | assumption | exact And.right (by first | assumption | exact And.right (by first | assumption | exact And.right (by first | assumption | exact And.right (by first | assumption | exact And.right (by first | assumption | exact And.right (by first | assumption | exact And.right (by assumption))))))))))))))))))))))))))))
  k_with "ne" => (first | exact Nat.ne_of_gt (And.left (by k_extra "cj")) | exact Nat.ne_of_lt (And.left (by k_extra "cj")) | exact Nat.ne_of_gt (by with_reducible assumption) | exact Nat.ne_of_lt (by with_reducible assumption) | exact Nat.ne_of_gt (by k_extra "cj") | exact Nat.ne_of_lt (by k_extra "cj") | (refine neN ?_; (try dsimp only); omega))
  k_with "all" => (first | exact List.forall_mem_nil _ | (refine' List.forall_mem_cons.mpr ⟨?a, ?b⟩; (case a => first | exact Nat.ne_of_lt (And.left (by k_extra "cj")) | k_ne); (case b => k_all)) | assumption | exact allLt_ne (by k_extra "cj") | exact gt_ne (by assumption) (by first | assumption | omega) | fail "k_all")
  k_with "call ref" => ((k_here; k_dflt (refine' own3_K ?k1 ?k2 ?k3 ?k4 ?k5 ?k6 ?k7 ?k8 ?k9 ?ka ?kb ?kc ?kd ?ke ?_ ?_ ?_; (case k1 => k_asm); (case k2 => k_asm); (case k3 => k_asm); (case k4 => k_asm); (case k5 => k_asm); (case k6 => first | exact rfl | assumption); (case k7 => k_mem); (case k8 => k_asm); (case k9 => k_asm); (case ka => ktr_room); (case kb => ktr_units); (case kc => first | assumption | omega | decide); (case kd => first | assumption | omega | decide); (case ke => first | assumption | exact K3.nil); k_whole; all_goals (intro qo to h' tk' eO9 F' N' l1; (try simp only [AllLt, and_true] at l1)))))
  k_with "eval Dict" => ((k_here; k_dflt (first
        | (refine' kdn_str ?q ?F ?N ?b ?a ?l ?e ?n ?_; (case q => rfl); (case F => k_asm); (case N => first | k_asm | exact News.nil); (case b => exact Top.nolimit (by k_asm)); (case a => rfl); (case l => rfl); (case e => exact List.cons_ne_nil _ _); (case n => exact Nat.le_of_ble_eq_true rfl))
        | (refine' kdn_int ?q ?F ?N ?b ?a ?l ?e ?n ?_; (case q => rfl); (case F => k_asm); (case N => first | k_asm | exact News.nil); (case b => exact Top.nolimit (by k_asm)); (case a => rfl); (case l => rfl); (case e => exact List.cons_ne_nil _ _); (case n => exact Nat.le_of_ble_eq_true rfl))); intro d' h' o' F' N' l1 lo' hd'; (try k_lt l1)))
  k_with "setItem ref str" => ((k_here; k_dflt (refine' kda_set (knd := PySem.strKind _ _) ?F ?N ?U ?d (strKind_is _ _ _ _) ?z ?_; (case F => k_asm); (case N => k_asm); (case U => k_updF); (case d => assumption); (case z => rw [sizeLine_eq]; omega)); intro h' o' F' N' hdS'; (try dsimp only at N')))
  k_with "my sub" => (((repeat (refine List.forall_mem_cons.mpr ⟨by k_mem, ?_⟩)); first | exact List.forall_mem_nil _ | (intro p hp; repeat (first | exact hp | refine List.Mem.tail _ ?_))))
  k_with "execs cons" => (first | (k_here; k_gentoks) | ((with_reducible refine wpAny_execs_cons ?_); try dsimp only))
  k_with "assignInOrder" => ((dsimp only; walk_at "assignInOrder"))
  k_with "enter" => (first
        | (refine' code_def ?k1 ?k2 ?k3 ?k4 ?k5 ?kA ?kF ?kK ?k6 ?k7 ?k8 ?k9 ?kB ?_ ?c2 ?c3 ?c4 ?c5; (case kA => exact rfl); (case kF => exact rfl); (case kK => first | exact rfl | assumption); (case k1 => k_asm); (case k2 => k_asm); (case k3 => k_asm); (case k4 => k_asm); (case k5 => k_asm); (case k6 => k_is); (case k7 => k_is); (case k8 => ktr_room); (case k9 => first | exact BindsTo.of_eq rfl | exact binds_K (by k_in) rfl (by k_is) rfl rfl rfl | fail "k_enter: no rule for these arguments"); (case c5 => decide); (case kB => exact locs rfl); (case c2 => exact rfl); (case c3 => exact rfl); (case c4 => exact rfl); k_whole; intro g' L' h' FG' F' N' B' X' T'; (try dsimp only); (try k_lift B'); (try k_fold)))
  k_with "call type:list" => ((k_here; (with_reducible show wpAny _ _ (call (Value.type "list") [Value.ref _]) _ _ _); k_dflt (refine' list_keys_K ?kh ?k1 ?k2 ?k3 ?k4 ?k5 ?k6 ?_; (case kh => exact rfl); (case k1 => k_asm); (case k2 => k_asm); (case k3 => k_mem); (case k4 => assumption); (case k5 => k_asm); (case k6 => omega); k_whole; intro lN2 cN2 vsN h' tk' hvN F' N' lNN; (try simp only [AllLt, and_true] at lNN))))
  k_with "binaryOp Add ref ref" => ((k_here; (with_reducible show wpAny _ _ (binaryOp _ (Value.ref _) (Value.ref _)) _ _ _); k_dflt (refine' add_lists_K ?F ?N ?a ?b ?z ?_; (case F => k_asm); (case N => k_asm); (case a => k_mem); (case b => k_mem); (case z => walk_at "my len")); intro D' h' F' N' l1; (try simp only [AllLt, and_true] at l1)))
  k_with "my len" => (((have hLn9 := strsAre_len hvN); (simp only [List.length_append, List.length_map, List.length_cons, List.length_nil] at *); omega))
  k_with "exec Assign cons ListComp" => ((k_here; (with_reducible show wpAny _ _ (exec (.Assign _ (.ListComp _ [⟨_, .Attribute _ _ _, _, _⟩] _ _) _) _) _ _ _); k_dflt (refine Assign_ListComp_TD (knd := PySem.strKind _ _) (by k_asm) (by rfl) (by with_unfolding_all rfl) (by with_unfolding_all rfl) (by decide) (by rfl) (by decide) (by rfl) (by rfl) (by rfl) ?_)))
  k_with "compareOp In str ref" => ((k_here; k_dflt (refine in_words_K (by k_asm) (by k_mem) hWd ?_)))
  k_with "getItem ref str" => ((k_here; k_dflt (refine kdt_getItem (knd := PySem.strKind _ _) (by k_asm) (by k_mem) (by k_asm) (strKind_is _ _ _ _) (by assumption) ?_)))
  k_with "my go" => (repeat' ((fail_if_success with_reducible refine strRest_at ?_); (fail_if_success with_reducible refine itemsRest_at ?_); first | (k_unfold; (try dsimp only)) | walk1 | (dsimp only; walk1) | fail "no step"))
  k_with "getAttr ref" => ((k_here; k_dflt (refine' get_attr_K ?k1 ?k2 ?k3 ?h1 ?h2 ?k4 ?k5 ?k6 ?k7 ?hA ?hl ?k9 ?_; (case k1 => k_asm); (case k2 => k_asm); (case k3 => k_asm); (case h1 => k_mem); (case h2 => k_mem); (case k4 => k_is); (case k5 => k_is); (case k6 => k_is); (case k7 => k_is); (case hA => assumption); (case hl => with_unfolding_all rfl); (case k9 => k_handed); k_whole)))
  k_with "setAttr ref" => ((k_here; k_dflt (refine' set_attr_K ?k1 ?k2 ?k3 ?h1 ?h2 ?k4 ?k5 ?k6 ?k7 ?U ?hA ?hl ?z ?_; (case k1 => k_asm); (case k2 => k_asm); (case k3 => k_asm); (case h1 => k_mem); (case h2 => k_mem); (case k4 => k_is); (case k5 => k_is); (case k6 => k_is); (case k7 => k_is); (case U => k_updF); (case hA => assumption); (case hl => with_unfolding_all rfl); (case z => omega); k_whole; intro h' es' F' N' hA' hz'; (try dsimp only at N'))))
  trivial

def world_K_S : Prop := ∀ {w : World} {mean : ExcName → Option Value} {mg mb : Str → Option Value} {dp un : Nat} {gd : Option (List Code)} {cn : Str} {cs : Scope} {a : Addr} {ccd : Value} {cl : List (Str × Addr)} {outer : List Env} {A₀ : Around} {base h₀ : Heap} {L : Addr} {m : Str → Option Value} {s : Shared} {Q E : Value → Shared → Prop} {pot scr lA : Addr} {n : Int} {t : Tok} {ep : Nat} {ws : List Value} {ns : List Int} {oL : Obj} {kvsL : List (Str × Value)}
    (B : Below A₀ base outer h₀) (F : Fr h₀ L s.heap m) (X : (hd.heap_39 w.params).In h₀)
    (N : News h₀ L s.heap [(lA, oL), (pot, listOf #[.int n t, .ref scr] ep), (scr, listOf ws.toArray 0)])
    (T : Top hd.view_39 (looseW hd.view_39 [Str.ofString "BasicError"]) mean mg mb h₀) (hk : cs.kind = .function)
    (hI : IntsAre ws ns) (hn : 0 ≤ n) (hn2 : n ≤ 100) (hps : @LT.lt Nat _ scr pot) (hpl : @LT.lt Nat _ pot lA) (hlen : ns.length ≤ 48)
    (hkd : oL.IsDictOf (PySem.strKind PySem.Challenge.rw_pf0005_01.row.prog w) kvsL) (loL : (lA == sysModules) = false) (hv : K3 kvsL) (hvl : kvsL.length ≤ 100)
    (hd : dp + 3 < recursionLimit) (_hu : un + 32 < cLine)
    (ret : ∀ (xA dx nA aA kA fA ouA inA fiA opA feA daA trA coA : Addr) (oN oA oK : Obj) (kvsN kvsA : List (Str × Value)) (k : Int) (es : List DictEntry) (w1 w2 w3 w4 w5 w6 w7 w8 w9 tp : Tok) (rest : List (Addr × Obj)) (h' : Heap) (tk' : Nat),
      Fr h₀ L h' m → News h₀ L h' ((xA, instObj 114 dx) :: (dx, dictOf es 28) :: (nA, oN) :: (aA, oA) :: (kA, oK) :: (lA, oL) :: (pot, W.listOf #[.int k tp, .ref scr] ep) :: (scr, W.listOf ws.toArray 0) :: rest) → Kept [pot] s.heap h' →
      k = n + 12 → (@LT.lt Nat _ lA dx ∧ @LT.lt Nat _ dx xA ∧ @LT.lt Nat _ xA nA ∧ @LT.lt Nat _ nA aA ∧ @LT.lt Nat _ aA kA) → (∀ p ∈ rest, @LT.lt Nat _ kA p.1) →
      (nA == sysModules) = false → (aA == sysModules) = false → (kA == sysModules) = false →
      oN.IsDictOf (PySem.strKind PySem.Challenge.rw_pf0005_01.row.prog w) kvsN → NamesOK rest kvsN → kvsN.length ≤ 8 → oA.IsDictOf (PySem.strKind PySem.Challenge.rw_pf0005_01.row.prog w) kvsA → ArrsOK rest kvsA → kvsA.length ≤ 4 →
      oK.IsDictOf (PySem.strKind PySem.Challenge.rw_pf0005_01.row.prog w) kvsL → Stays PySem.Challenge.rw_pf0005_01.row.prog w rest fiA opA feA ouA inA trA →
      HasA es [(Str.ofString "names", .ref nA), (Str.ofString "arrays", .ref aA), (Str.ofString "kinds", .ref kA), (Str.ofString "fns", .ref fA), (Str.ofString "out", .ref ouA), (Str.ofString "row", .str (Str.ofString "two") w1), (Str.ofString "inputs", .ref inA), (Str.ofString "files", .ref fiA), (Str.ofString "open", .ref opA), (Str.ofString "fields", .ref feA), (Str.ofString "data", .ref daA), (Str.ofString "spot", .int 1 w2), (Str.ofString "base", .int 1 w3), (Str.ofString "seed", .int 77 w4), (Str.ofString "steps", .int 5 w5), (Str.ofString "depth", .int 2 w6), (Str.ofString "handler", .int 50 w7), (Str.ofString "is_handling", .bool true), (Str.ofString "error_line", .int 40 w8), (Str.ofString "error_code", .str (Str.ofString "DZ") w9), (Str.ofString "is_traced", .bool true), (Str.ofString "traces", .ref trA), (Str.ofString "common", .ref coA)] → es.length ≤ 1000 → Q (.ref xA) { s with heap := h', toks := tk' }),
    wpAny (model PySem.Challenge.rw_pf0005_01.row.prog w) (ktrTop dp un gd cn cs L a ccd cl outer) (call (.ref 160) [.ref pot, .ref lA]) Q E s

noncomputable def world_K_pk : Pk2 world_K_S := by
  apply Pk2.mk
  intro H1_9 H2_9
  unfold world_K_S
  unhygienic intros
  walk_at "my enter"
  repeat' ((fail_if_success with_reducible refine strRest_at ?_); (fail_if_success with_reducible refine itemsRest_at ?_); (fail_if_success with_reducible show wpAny _ _ (call (Value.ref 114) _) _ _ _); first | (k_unfold; (try dsimp only)) | walk1 | (dsimp only; walk1) | fail "no step")
  k_dflt (refine' winit_K ?k1 ?k2 ?k3 ?k4 ?k5 ?k6 ?ka ?kb ?_; (case k1 => k_asm); (case k2 => k_asm); (case k3 => k_asm); (case k4 => k_asm); (case k5 => k_asm); (case k6 => first | exact rfl | assumption); (case ka => ktr_room); (case kb => ktr_units); k_whole)
  intro x_1 d_1 d_2 d_3 kA0 fA0 ouA0 inA0 fiA0 opA0 feA0 daA0 trA0 coA0 o_1 o_2 es0 rw0 ec0 t1 t2 t3 t4 t5 t6 t7 t8 t9 h' tk' F' N' hs_1 hs_2 lo_1 lo_2 hord hEl hA0
  have hEl' : es0.length ≤ 1000 := by omega
  simp only [AllLt] at hord
  walk_at "my go"
  rename_i hv1 tkv1 hv2 tqv1 hv3 Dv1 hv4 l1v1 hv5 tqv2 hv6 lv1 hv7 NNv1 l1v2 iv1 l1v3
  rw [storeAll_same kvsL (nodup_of hkd)] at hdK
  try simp only [AllLt, and_true] at l1v1 lK l1v2 l1v3
  have zo2 : @LT.lt Nat _ pot lA ∧ @LT.lt Nat _ scr lA := by omega
  have zo3 : @LT.lt Nat _ lA d_1 ∧ @LT.lt Nat _ pot d_1 ∧ @LT.lt Nat _ scr d_1 := by omega
  have zo4 : @LT.lt Nat _ d_1 x_1 ∧ @LT.lt Nat _ lA x_1 ∧ @LT.lt Nat _ pot x_1 ∧ @LT.lt Nat _ scr x_1 := by omega
  have zo5 : @LT.lt Nat _ x_1 d_2 ∧ @LT.lt Nat _ d_1 d_2 ∧ @LT.lt Nat _ lA d_2 ∧ @LT.lt Nat _ pot d_2 ∧ @LT.lt Nat _ scr d_2 := by omega
  have zo6 : @LT.lt Nat _ d_2 d_3 ∧ @LT.lt Nat _ x_1 d_3 ∧ @LT.lt Nat _ d_1 d_3 ∧ @LT.lt Nat _ lA d_3 ∧ @LT.lt Nat _ pot d_3 ∧ @LT.lt Nat _ scr d_3 := by omega
  have zo7 : @LT.lt Nat _ d_3 dK ∧ @LT.lt Nat _ d_2 dK ∧ @LT.lt Nat _ x_1 dK ∧ @LT.lt Nat _ d_1 dK ∧ @LT.lt Nat _ lA dK ∧ @LT.lt Nat _ pot dK ∧ @LT.lt Nat _ scr dK := by omega
  have zo8 : @LT.lt Nat _ dK lv1 ∧ @LT.lt Nat _ d_3 lv1 ∧ @LT.lt Nat _ d_2 lv1 ∧ @LT.lt Nat _ x_1 lv1 ∧ @LT.lt Nat _ d_1 lv1 ∧ @LT.lt Nat _ lA lv1 ∧ @LT.lt Nat _ pot lv1 ∧ @LT.lt Nat _ scr lv1 := by omega
  have zo9 : @LT.lt Nat _ lv1 iv1 ∧ @LT.lt Nat _ dK iv1 ∧ @LT.lt Nat _ d_3 iv1 ∧ @LT.lt Nat _ d_2 iv1 ∧ @LT.lt Nat _ x_1 iv1 ∧ @LT.lt Nat _ d_1 iv1 ∧ @LT.lt Nat _ lA iv1 ∧ @LT.lt Nat _ pot iv1 ∧ @LT.lt Nat _ scr iv1 := by omega
  have zo10 : @LT.lt Nat _ iv1 (iv1 + 1) ∧ @LT.lt Nat _ lv1 (iv1 + 1) ∧ @LT.lt Nat _ dK (iv1 + 1) ∧ @LT.lt Nat _ d_3 (iv1 + 1) ∧ @LT.lt Nat _ d_2 (iv1 + 1) ∧ @LT.lt Nat _ x_1 (iv1 + 1) ∧ @LT.lt Nat _ d_1 (iv1 + 1) ∧ @LT.lt Nat _ lA (iv1 + 1) ∧ @LT.lt Nat _ pot (iv1 + 1) ∧ @LT.lt Nat _ scr (iv1 + 1) := by omega
  clear l1v1 lK l1v2 l1v3 hord hA0 hEl hEl'
  dsimp only
  generalize hob : dictOf _ _ = ob
  generalize h8 : W.listOf #[_, _, _, _, _, _, _, _] 0 = o8
  refine itemsRest_sub [(lv1, o8), (dK, oK), (d_2, o_1), (d_3, o_2), (x_1, instObj 114 d_1), (d_1, ob), (lA, oL), (pot, W.listOf #[.int n t, .ref scr] ep), (scr, W.listOf ws.toArray 0)] ?sub ?_
  case sub =>
    repeat (refine List.forall_mem_cons.mpr ⟨by k_mem, ?_⟩)
    exact List.forall_mem_nil _
  refine items_inv3 (Str.ofString "at") (Str.ofString "name") (Str.ofString "kind") (fun i nw => ∃ (oN : Obj) (kvsN : List (Str × Value)) (k : Int) (t1 : Tok) (vals : List (Addr × Obj)), nw = (lv1, o8) :: (dK, oK) :: (d_2, oN) :: (d_3, o_2) :: (x_1, instObj 114 d_1) :: (d_1, ob) :: (lA, oL) :: (pot, W.listOf #[.int k t1, .ref scr] ep) :: (scr, W.listOf ws.toArray 0) :: vals ∧ oN.IsDictOf (PySem.strKind PySem.Challenge.rw_pf0005_01.row.prog w) kvsN ∧ NamesOK vals kvsN ∧ kvsN.length ≤ i ∧ k = n + i ∧ ∀ p ∈ vals, @LT.lt Nat _ (iv1 + 1) p.1) ?_ ?_ ⟨o_1, [], n, t, [], rfl, hs_1, NamesOK.nil, Nat.le_refl _, by simp, by simp⟩
  · intro i it nw hi hJ u v h tk hv2 F0
    obtain ⟨oN, kvsN, k, t1, vals, rfl, hN, hNo, hNl, hkk, hvs⟩ := hJ
    have hi8 : i < 8 := by
      have := (List.getElem?_eq_some_iff.mp hi).1
      simpa using this
    obtain ⟨j, x, tx, hit, hx8, hj0, hj8⟩ : ∃ (j : Int) (x : Str) (tx : Tok), it = .pair (fun t => .int j t) (.str x tx) ∧ x ∈ names8 ∧ 0 ≤ j ∧ j < 8 := by
      have hm := List.mem_of_getElem? hi
      simp only [List.mem_cons, List.not_mem_nil, or_false] at hm
      rcases hm with rfl | rfl | rfl | rfl | rfl | rfl | rfl | rfl
      all_goals exact ⟨_, _, _, rfl, by simp [names8], by decide, by decide⟩
    subst hit
    obtain ⟨Tt, tj, rfl, hT⟩ := hv2
    have hx1 := (names8_len x hx8).1
    have hx2 := (names8_len x hx8).2
    subst hob
    intro oe ce oi ci N0
    simp only [List.cons_append, List.nil_append] at N0
    (rename_i xt1_rt1 xt1_rt2; revert w mean mg mb dp un gd cn cs a ccd cl outer A₀ base h₀ L m s Q E pot scr lA n t ep ws ns oL kvsL g' L' hv1 tkv1 x_1 d_1 d_2 d_3 kA0 fA0 ouA0 inA0 fiA0 opA0 feA0 daA0 trA0 coA0 o_1 o_2 es0 rw0 ec0 xt1_rt1 t2 t3 t4 t5 t6 t7 t8 t9 hv2 tqv1 hv3 Dv1 hv4 lS its9 c9 extra9 hv5 tqv2 dK oK hv6 tk' h' es' xt1_rt2 lv1 hv7 iv1 o8 i u h tk oN kvsN k t1 vals j x tx Tt tj oe oi; exact (no_implicit_lambda% H1_9.out))
  · intro nw hJ u h tk F0 N0
    (rename_i xf1_rt1; revert w mean mg mb dp un gd cn cs a ccd cl outer A₀ base h₀ L m s Q E pot scr lA n t ep ws ns oL kvsL g' L' hv1 tkv1 x_1 d_1 d_2 d_3 kA0 fA0 ouA0 inA0 fiA0 opA0 feA0 daA0 trA0 coA0 o_1 o_2 es0 rw0 ec0 t1 t2 t3 t4 t5 t6 t7 t8 t9 hv2 tqv1 hv3 Dv1 hv4 lS its9 c9 extra9 hv5 tqv2 dK oK hv6 tk' h' es' xf1_rt1 lv1 hv7 iv1 ob o8 nw u h tk; exact (no_implicit_lambda% H2_9.out))


theorem xturn1_h : world_K_pk.P1 := by
  intro w; unhygienic intros
  walk_at "my go"
  · refine' ⟨_, _, _, (lv1, o8) :: (dK, oK) :: (d_2, _) :: (d_3, o_2) :: (x_1, instObj 114 d_1) :: (d_1, _) :: (lA, oL) :: (pot, _) :: (scr, _) :: vals, rfl, ?F, ?N, ?off, ?kp, ?fr, ⟨_, _, _, _, _, rfl, ?d, ?n, ?l, ?k, ?b⟩⟩
    case F => assumption
    case N => exact news_sub (by assumption) (by walk_at "my sub")
    case off => exact off_2 (List.forall_mem_cons.mpr ⟨Nat.ne_of_lt zo10.2.1, List.forall_mem_cons.mpr ⟨Nat.ne_of_lt zo10.2.2.1, List.forall_mem_cons.mpr ⟨Nat.ne_of_lt zo10.2.2.2.2.1, List.forall_mem_cons.mpr ⟨Nat.ne_of_lt zo10.2.2.2.1, List.forall_mem_cons.mpr ⟨Nat.ne_of_lt zo10.2.2.2.2.2.1, List.forall_mem_cons.mpr ⟨Nat.ne_of_lt zo10.2.2.2.2.2.2.1, List.forall_mem_cons.mpr ⟨Nat.ne_of_lt zo10.2.2.2.2.2.2.2.1, List.forall_mem_cons.mpr ⟨Nat.ne_of_lt zo10.2.2.2.2.2.2.2.2.1, List.forall_mem_cons.mpr ⟨Nat.ne_of_lt zo10.2.2.2.2.2.2.2.2.2, gt_ne hvs (Nat.le_refl _)⟩⟩⟩⟩⟩⟩⟩⟩⟩) (List.forall_mem_cons.mpr ⟨Nat.ne_of_lt zo9.1, List.forall_mem_cons.mpr ⟨Nat.ne_of_lt zo9.2.1, List.forall_mem_cons.mpr ⟨Nat.ne_of_lt zo9.2.2.2.1, List.forall_mem_cons.mpr ⟨Nat.ne_of_lt zo9.2.2.1, List.forall_mem_cons.mpr ⟨Nat.ne_of_lt zo9.2.2.2.2.1, List.forall_mem_cons.mpr ⟨Nat.ne_of_lt zo9.2.2.2.2.2.1, List.forall_mem_cons.mpr ⟨Nat.ne_of_lt zo9.2.2.2.2.2.2.1, List.forall_mem_cons.mpr ⟨Nat.ne_of_lt zo9.2.2.2.2.2.2.2.1, List.forall_mem_cons.mpr ⟨Nat.ne_of_lt zo9.2.2.2.2.2.2.2.2, gt_ne hvs (Nat.le_succ _)⟩⟩⟩⟩⟩⟩⟩⟩⟩)
    case kp => exact ⟨.head _, trivial⟩
    case fr => (intro y h1 h2 h3; simp only [h1, h2, h3, if_false] <;> rfl)
    case d => assumption
    case n => exact NamesOK.stored hNo hx8 (.inr (.inl ⟨_, _, rfl⟩))
    case l => exact Nat.le_trans (stored_length_le _ _ _) (by omega)
    case k => omega
    case b => assumption
  · refine' ⟨_, _, _, (lv1, o8) :: (dK, oK) :: (d_2, _) :: (d_3, o_2) :: (x_1, instObj 114 d_1) :: (d_1, _) :: (lA, oL) :: (pot, _) :: (scr, _) :: vals, rfl, ?F, ?N, ?off, ?kp, ?fr, ⟨_, _, _, _, _, rfl, ?d, ?n, ?l, ?k, ?b⟩⟩
    case F => assumption
    case N => exact news_sub (by assumption) (by walk_at "my sub")
    case off => exact off_2 (List.forall_mem_cons.mpr ⟨Nat.ne_of_lt zo10.2.1, List.forall_mem_cons.mpr ⟨Nat.ne_of_lt zo10.2.2.1, List.forall_mem_cons.mpr ⟨Nat.ne_of_lt zo10.2.2.2.2.1, List.forall_mem_cons.mpr ⟨Nat.ne_of_lt zo10.2.2.2.1, List.forall_mem_cons.mpr ⟨Nat.ne_of_lt zo10.2.2.2.2.2.1, List.forall_mem_cons.mpr ⟨Nat.ne_of_lt zo10.2.2.2.2.2.2.1, List.forall_mem_cons.mpr ⟨Nat.ne_of_lt zo10.2.2.2.2.2.2.2.1, List.forall_mem_cons.mpr ⟨Nat.ne_of_lt zo10.2.2.2.2.2.2.2.2.1, List.forall_mem_cons.mpr ⟨Nat.ne_of_lt zo10.2.2.2.2.2.2.2.2.2, gt_ne hvs (Nat.le_refl _)⟩⟩⟩⟩⟩⟩⟩⟩⟩) (List.forall_mem_cons.mpr ⟨Nat.ne_of_lt zo9.1, List.forall_mem_cons.mpr ⟨Nat.ne_of_lt zo9.2.1, List.forall_mem_cons.mpr ⟨Nat.ne_of_lt zo9.2.2.2.1, List.forall_mem_cons.mpr ⟨Nat.ne_of_lt zo9.2.2.1, List.forall_mem_cons.mpr ⟨Nat.ne_of_lt zo9.2.2.2.2.1, List.forall_mem_cons.mpr ⟨Nat.ne_of_lt zo9.2.2.2.2.2.1, List.forall_mem_cons.mpr ⟨Nat.ne_of_lt zo9.2.2.2.2.2.2.1, List.forall_mem_cons.mpr ⟨Nat.ne_of_lt zo9.2.2.2.2.2.2.2.1, List.forall_mem_cons.mpr ⟨Nat.ne_of_lt zo9.2.2.2.2.2.2.2.2, gt_ne hvs (Nat.le_succ _)⟩⟩⟩⟩⟩⟩⟩⟩⟩)
    case kp => exact ⟨.head _, trivial⟩
    case fr => (intro y h1 h2 h3; simp only [h1, h2, h3, if_false] <;> rfl)
    case d => assumption
    case n => exact NamesOK.stored hNo hx8 (.inl ⟨_, _, rfl⟩)
    case l => exact Nat.le_trans (stored_length_le _ _ _) (by omega)
    case k => omega
    case b => assumption
  · refine' ⟨_, _, _, (lv1, o8) :: (dK, oK) :: (d_2, _) :: (d_3, o_2) :: (x_1, instObj 114 d_1) :: (d_1, _) :: (lA, oL) :: (pot, _) :: (scr, _) :: (_, tupOf [.int _ _, .int _ _]) :: vals, rfl, ?F, ?N, ?off, ?kp, ?fr, ⟨_, _, _, _, _, rfl, ?d, ?n, ?l, ?k, ?b⟩⟩
    case F => assumption
    case N => exact news_sub (by assumption) (by walk_at "my sub")
    case off => exact off_2 (List.forall_mem_cons.mpr ⟨Nat.ne_of_lt zo10.2.1, List.forall_mem_cons.mpr ⟨Nat.ne_of_lt zo10.2.2.1, List.forall_mem_cons.mpr ⟨Nat.ne_of_lt zo10.2.2.2.2.1, List.forall_mem_cons.mpr ⟨Nat.ne_of_lt zo10.2.2.2.1, List.forall_mem_cons.mpr ⟨Nat.ne_of_lt zo10.2.2.2.2.2.1, List.forall_mem_cons.mpr ⟨Nat.ne_of_lt zo10.2.2.2.2.2.2.1, List.forall_mem_cons.mpr ⟨Nat.ne_of_lt zo10.2.2.2.2.2.2.2.1, List.forall_mem_cons.mpr ⟨Nat.ne_of_lt zo10.2.2.2.2.2.2.2.2.1, List.forall_mem_cons.mpr ⟨Nat.ne_of_lt zo10.2.2.2.2.2.2.2.2.2, List.forall_mem_cons.mpr ⟨by k_ne, gt_ne hvs (Nat.le_refl _)⟩⟩⟩⟩⟩⟩⟩⟩⟩⟩) (List.forall_mem_cons.mpr ⟨Nat.ne_of_lt zo9.1, List.forall_mem_cons.mpr ⟨Nat.ne_of_lt zo9.2.1, List.forall_mem_cons.mpr ⟨Nat.ne_of_lt zo9.2.2.2.1, List.forall_mem_cons.mpr ⟨Nat.ne_of_lt zo9.2.2.1, List.forall_mem_cons.mpr ⟨Nat.ne_of_lt zo9.2.2.2.2.1, List.forall_mem_cons.mpr ⟨Nat.ne_of_lt zo9.2.2.2.2.2.1, List.forall_mem_cons.mpr ⟨Nat.ne_of_lt zo9.2.2.2.2.2.2.1, List.forall_mem_cons.mpr ⟨Nat.ne_of_lt zo9.2.2.2.2.2.2.2.1, List.forall_mem_cons.mpr ⟨Nat.ne_of_lt zo9.2.2.2.2.2.2.2.2, List.forall_mem_cons.mpr ⟨by k_ne, gt_ne hvs (Nat.le_succ _)⟩⟩⟩⟩⟩⟩⟩⟩⟩⟩)
    case kp => exact ⟨.head _, trivial⟩
    case fr => (intro y h1 h2 h3; simp only [h1, h2, h3, if_false] <;> rfl)
    case d => assumption
    case n => exact NamesOK.stored (hNo.mono fun p hp => .tail _ hp) hx8 (.inr (.inr ⟨_, _, _, _, _, rfl, .head _⟩))
    case l => exact Nat.le_trans (stored_length_le _ _ _) (by omega)
    case k => omega
    case b => exact List.forall_mem_cons.mpr ⟨by omega, by assumption⟩
  · refine' ⟨_, _, _, (lv1, o8) :: (dK, oK) :: (d_2, _) :: (d_3, o_2) :: (x_1, instObj 114 d_1) :: (d_1, _) :: (lA, oL) :: (pot, _) :: (scr, _) :: vals, rfl, ?F, ?N, ?off, ?kp, ?fr, ⟨_, _, _, _, _, rfl, ?d, ?n, ?l, ?k, ?b⟩⟩
    case F => assumption
    case N => exact news_sub (by assumption) (by walk_at "my sub")
    case off => exact off_2 (List.forall_mem_cons.mpr ⟨Nat.ne_of_lt zo10.2.1, List.forall_mem_cons.mpr ⟨Nat.ne_of_lt zo10.2.2.1, List.forall_mem_cons.mpr ⟨Nat.ne_of_lt zo10.2.2.2.2.1, List.forall_mem_cons.mpr ⟨Nat.ne_of_lt zo10.2.2.2.1, List.forall_mem_cons.mpr ⟨Nat.ne_of_lt zo10.2.2.2.2.2.1, List.forall_mem_cons.mpr ⟨Nat.ne_of_lt zo10.2.2.2.2.2.2.1, List.forall_mem_cons.mpr ⟨Nat.ne_of_lt zo10.2.2.2.2.2.2.2.1, List.forall_mem_cons.mpr ⟨Nat.ne_of_lt zo10.2.2.2.2.2.2.2.2.1, List.forall_mem_cons.mpr ⟨Nat.ne_of_lt zo10.2.2.2.2.2.2.2.2.2, gt_ne hvs (Nat.le_refl _)⟩⟩⟩⟩⟩⟩⟩⟩⟩) (List.forall_mem_cons.mpr ⟨Nat.ne_of_lt zo9.1, List.forall_mem_cons.mpr ⟨Nat.ne_of_lt zo9.2.1, List.forall_mem_cons.mpr ⟨Nat.ne_of_lt zo9.2.2.2.1, List.forall_mem_cons.mpr ⟨Nat.ne_of_lt zo9.2.2.1, List.forall_mem_cons.mpr ⟨Nat.ne_of_lt zo9.2.2.2.2.1, List.forall_mem_cons.mpr ⟨Nat.ne_of_lt zo9.2.2.2.2.2.1, List.forall_mem_cons.mpr ⟨Nat.ne_of_lt zo9.2.2.2.2.2.2.1, List.forall_mem_cons.mpr ⟨Nat.ne_of_lt zo9.2.2.2.2.2.2.2.1, List.forall_mem_cons.mpr ⟨Nat.ne_of_lt zo9.2.2.2.2.2.2.2.2, gt_ne hvs (Nat.le_succ _)⟩⟩⟩⟩⟩⟩⟩⟩⟩)
    case kp => exact ⟨.head _, trivial⟩
    case fr => (intro y h1 h2 h3; simp only [h1, h2, h3, if_false] <;> rfl)
    case d => assumption
    case n => exact hNo
    case l => omega
    case k => omega
    case b => assumption


noncomputable def xfin1_pk : Pk1 world_K_pk.P2 := by
  apply Pk1.mk
  intro H1_9
  intro w; unhygienic intros
  obtain ⟨oN, kvsN, k, t1, vals, rfl, hN, hNo, hNl, hkk, hvs⟩ := hJ
  subst hob
  have hkk : k = n + 8 := hkk
  have hNl : kvsN.length ≤ 8 := hNl
  dsimp only
  walk_at "my go"
  rename_i DD _ _ _ lDD
  generalize hob : dictOf _ _ = ob
  generalize h8' : ({ cls := Value.type "tuple", data := Data.seq #[_, _, _, _] } : Obj) = o4
  simp only [List.map_cons, List.map_nil]
  refine itemsRest_sub ((DD, o4) :: (dK, oK) :: (d_2, oN) :: (d_3, o_2) :: (x_1, instObj 114 d_1) :: (d_1, ob) :: (lA, oL) :: (pot, W.listOf #[.int k t1, .ref scr] ep) :: (scr, W.listOf ws.toArray 0) :: vals) ?sub ?_
  case sub => walk_at "my sub"
  have hvs' : ∀ p ∈ vals, @LT.lt Nat _ dK p.1 := fun p hp => by have := hvs p hp; omega
  have hA0 : ∀ p ∈ vals, p.1 ≠ iI := by k_all
  have hA1 : ∀ p ∈ vals, p.1 ≠ DD := by k_all
  refine items_inv3 (Str.ofString "name") (Str.ofString "name") (Str.ofString "name") (fun i nw => ∃ (oA : Obj) (kvsA : List (Str × Value)) (k2 : Int) (t2 : Tok) (vals2 : List (Addr × Obj)), nw = (DD, o4) :: (dK, oK) :: (d_2, oN) :: (d_3, oA) :: (x_1, instObj 114 d_1) :: (d_1, ob) :: (lA, oL) :: (pot, W.listOf #[.int k2 t2, .ref scr] ep) :: (scr, W.listOf ws.toArray 0) :: vals2 ∧ oA.IsDictOf (PySem.strKind PySem.Challenge.rw_pf0005_01.row.prog w) kvsA ∧ ArrsOK vals2 kvsA ∧ kvsA.length ≤ i ∧ k2 = k + i ∧ (∀ p ∈ vals, p ∈ vals2) ∧ (∀ p ∈ vals2, @LT.lt Nat _ dK p.1) ∧ (∀ p ∈ vals2, p.1 ≠ iI) ∧ ∀ p ∈ vals2, p.1 ≠ DD) ?_ ?_ ⟨o_2, [], k, t1, vals, rfl, hs_2, ArrsOK.nil, Nat.le_refl _, by simp, fun p h => h, hvs', hA0, hA1⟩
  · intro i it nw hi hJ u v h tk hv2 F0
    obtain ⟨oA, kvsA, k2, t2, vals2, rfl, hAd, hAo, hAl, hk2, hsub2, hvs2, hv3, hv4⟩ := hJ
    have hi4 : i < 4 := by
      have := (List.getElem?_eq_some_iff.mp hi).1
      simpa using this
    obtain ⟨x, tx, hit, hx4⟩ : ∃ (x : Str) (tx : Tok), it = .val (.str x tx) ∧ x ∈ arrs4 := by
      have hm := List.mem_of_getElem? hi
      simp only [List.mem_cons, List.not_mem_nil, or_false] at hm
      rcases hm with rfl | rfl | rfl | rfl
      all_goals exact ⟨_, _, rfl, by simp [arrs4]⟩
    subst hit
    obtain rfl : v = .str x tx := hv2
    have hx1 := (arrs4_len x hx4).1
    have hx2 := (arrs4_len x hx4).2
    subst hob
    intro oe ce N0
    simp only [List.cons_append, List.nil_append] at N0
    walk_at "my go"
    · refine' ⟨_, _, _, (DD, o4) :: (dK, oK) :: (d_2, oN) :: (d_3, _) :: (x_1, instObj 114 d_1) :: (d_1, _) :: (lA, oL) :: (pot, _) :: (scr, _) :: (_, W.listOf #[.str x _, .int 1 _] 0) :: vals2, rfl, ?F, ?N, ?off, ?kp, ?fr, ⟨_, _, _, _, _, rfl, ?d, ?n, ?l, ?k, ?s, ?b, ?b3, ?b4⟩⟩
      case F => assumption
      case N => exact news_sub (by assumption) (by walk_at "my sub")
      case off => exact off_1 (by k_all)
      case kp => exact ⟨.head _, trivial⟩
      case fr => (intro y h1 h2 h3; simp only [h1, h2, h3, if_false] <;> rfl)
      case d => assumption
      case n => exact ArrsOK.stored (hAo.mono fun p hp => .tail _ hp) hx4 (.head _)
      case l => exact Nat.le_trans (stored_length_le _ _ _) (by omega)
      case k => omega
      case s => exact fun p hp => .tail _ (hsub2 p hp)
      case b => exact List.forall_mem_cons.mpr ⟨by omega, by assumption⟩
      case b3 => k_all
      case b4 => k_all
    · refine' ⟨_, _, _, (DD, o4) :: (dK, oK) :: (d_2, oN) :: (d_3, _) :: (x_1, instObj 114 d_1) :: (d_1, _) :: (lA, oL) :: (pot, _) :: (scr, _) :: vals2, rfl, ?F, ?N, ?off, ?kp, ?fr, ⟨_, _, _, _, _, rfl, ?d, ?n, ?l, ?k, ?s, ?b, ?b3, ?b4⟩⟩
      case F => assumption
      case N => exact news_sub (by assumption) (by walk_at "my sub")
      case off => exact off_1 (by k_all)
      case kp => exact ⟨.head _, trivial⟩
      case fr => (intro y h1 h2 h3; simp only [h1, h2, h3, if_false] <;> rfl)
      case d => assumption
      case n => exact hAo
      case l => omega
      case k => omega
      case s => exact hsub2
      case b => assumption
      case b3 => assumption
      case b4 => assumption
  · intro nw hJ u h tk F0 N0
    obtain ⟨oA, kvsA, k2, t2, vals2, rfl, hAd, hAo, hAl, hk2, hsub2, hvs2, hv3, hv4⟩ := hJ
    subst hob
    have hk2 : k2 = k + 4 := hk2
    have hAl : kvsA.length ≤ 4 := hAl
    (rename_i xf2_rt1 xf2_rt2 xf2_rt3 xf2_rt4 xf2_rt5 xf2_rt6 xf2_rt7 _ _ xf2_rt8 _ _ _ _; revert w mean mg mb dp un gd cn cs a ccd cl outer A₀ base h₀ L m s Q E pot scr lA n t ep ws ns oL kvsL g' L' hv1 tkv1 x_1 d_1 d_2 d_3 kA0 fA0 ouA0 inA0 fiA0 opA0 feA0 daA0 trA0 coA0 o_1 o_2 es0 rw0 ec0 xf2_rt1 xf2_rt2 t3 t4 t5 t6 t7 t8 t9 hv2 tqv1 xf2_rt3 Dv1 xf2_rt4 lS its9 c9 extra9 hv5 tqv2 dK oK hv6 tk' h' es' xf1_rt1 lv1 hv7 iv1 o8 xf2_rt5 xf2_rt6 xf2_rt7 oN kvsN k t1 vals DD xf2_rt8 iI o4 u h tk oA kvsA k2 t2 vals2; exact (no_implicit_lambda% H1_9.out))

theorem rows_14 : True := by
  k_with_none
  k_with "my enter" => ((refine wpAny_call ?_; k_dflt (refine' code_defG ?k1 ?k2 ?k3 ?k4 ?k5 ?kA ?kF ?kK ?k6 ?k7 ?k8 ?k9 ?kB ?_ ?c2 ?c3 ?c4 ?c5; (case kA => exact rfl); (case kF => exact rfl); (case kK => assumption); (case k1 => k_asm); (case k2 => k_asm); (case k3 => k_asm); (case k4 => k_asm); (case k5 => k_asm); (case k6 => k_is); (case k7 => k_is); (case k8 => ktr_room); (case k9 => exact BindsTo.of_eq rfl); (case c5 => decide); (case kB => exact locs rfl); (case c2 => exact rfl); (case c3 => exact rfl); (case c4 => exact rfl); k_whole; intro g' L' h' FG' F' N' B' X' T' kG'; (try dsimp only); (try k_lift B'); (try k_fold))))
  k_with "my enterC" => ((refine wpAny_call ?_; k_dflt (refine' code_defC ?k1 ?k2 ?k3 ?k4 ?k5 ?kA ?kF ?kK ?k6 ?k7 ?k8 ?k9 ?kB ?kD ?_ ?c2 ?c3 ?c4; (case kA => exact rfl); (case kF => exact rfl); (case kK => assumption); (case k1 => k_asm); (case k2 => k_asm); (case k3 => k_asm); (case k4 => k_asm); (case k5 => k_asm); (case k6 => k_is); (case k7 => k_is); (case k8 => ktr_room); (case k9 => exact BindsTo.of_eq rfl); (case kB => exact rfl); (case kD => decide +kernel); (case c2 => exact rfl); (case c3 => exact rfl); (case c4 => exact rfl); k_whole; intro g' L' h' tk' cells' FG' F' N' Y' B' X' T' l1; (try k_lt l1); (obtain ⟨oc, hE', d1⟩ := CellsAre.one Y'; subst hE'; clear Y'); (try simp only [List.cons_append, List.nil_append] at N'); (try dsimp only); (try k_lift B'); (try k_fold))))
  k_with "ite" => (first | with_reducible refine ite_tt ?_ | with_reducible refine ite_ff ?_)
  k_with "call ref" => ((k_here; k_dflt (refine' kind_K ?k1 ?k2 ?k3 ?k4 ?k5 ?k6 ?k7 ?k8 ?k9 ?ka ?kb ?kc ?kd ?ke ?_; (case k1 => k_asm); (case k2 => k_asm); (case k3 => k_asm); (case k4 => k_asm); (case k5 => k_asm); (case k6 => first | exact rfl | assumption); (case k7 => k_mem); (case k8 => k_asm); (case k9 => k_asm); (case ka => ktr_room); (case kb => ktr_units); (case kc => first | assumption | omega); (case kd => first | assumption | omega); (case ke => first | assumption | exact allStr_nil); k_whole; intro t' h' tk' F' N' cE')))
  k_with "call ref" => ((k_here; k_dflt (refine' isarr_K ?k1 ?k2 ?k3 ?k4 ?k5 ?k6 ?ka ?kb ?kc ?kd ?_; (case k1 => k_asm); (case k2 => k_asm); (case k3 => k_asm); (case k4 => k_asm); (case k5 => k_asm); (case k6 => first | exact rfl | assumption); (case ka => ktr_room); (case kb => ktr_units); (case kc => first | assumption | omega); (case kd => first | assumption | omega); k_whole; intro h' tk' F' N')))
  k_with "call ref" => ((k_here; k_dflt (refine' means_K ?k1 ?k2 ?k3 ?k4 ?k5 ?k6 ?k7 ?k71 ?k72 ?k73 ?k8 ?k9 ?ka ?kb ?kc ?kd ?ke ?_; (case k1 => k_asm); (case k2 => k_asm); (case k3 => k_asm); (case k4 => k_asm); (case k5 => k_asm); (case k6 => first | exact rfl | assumption); (case k71 => k_mem); (case k72 => k_mem); (case k73 => first | assumption | k_get); (case k7 => k_mem); (case k8 => k_asm); (case k9 => k_asm); (case ka => ktr_room); (case kb => ktr_units); (case kc => first | assumption | omega | exact (hkl _ (by assumption)).1); (case kd => first | assumption | omega | exact (hkl _ (by assumption)).2); (case ke => first | assumption | exact allStr_nil); k_whole; intro h' tk' F' N')))
  k_with "getAttr ref" => ((k_here; k_dflt (refine' get_own ?F ?X ?I ?g ?h ?a ?n ?l ?v ?_; (case F => k_asm); (case X => k_asm); (case I => k_inst); (case g => k_is); (case h => k_is); (case a => k_is); (case n => k_is); (case l => assumption); (case v => k_handed); k_whole)))
  k_with "exec Assign cons ListComp" => ((k_here; k_dflt (refine LCt.Assign_ListComp_T (F₀ := by k_asm) (by rfl) (by with_unfolding_all rfl) (by with_unfolding_all rfl) (by decide) (by rfl) (by decide) (by rfl) (by rfl) (by rfl) ?_)))
  k_with "eval ListComp" => ((k_here; k_dflt (refine LCt.ListComp_T (F₀ := by k_asm) (by with_unfolding_all rfl) (by decide) (by rfl) (by decide) (by rfl) ?_)))
  k_with "compareOp In str ref" => ((k_here; k_dflt (refine kda_in (knd := PySem.strKind _ _) (by k_asm) (by k_mem) (by k_asm) (by k_asm) (strKind_is _ _ _ _) ((valueAt _ _).isSome) (by rfl) ?_)))
  k_with "subscriptTail" => ((k_here; (with_reducible show wpAny _ _ (subscriptTail _ _ (Value.ref _) (Value.str _ _)) _ _ _); (obtain ⟨v9, hv9⟩ := Option.isSome_iff_exists.mp (by assumption : (valueAt _ _).isSome = true)); k_dflt (refine kda_item (knd := PySem.strKind _ _) (by k_asm) (by k_mem) (by k_asm) (strKind_is _ _ _ _) hv9 ?_)))
  k_with "call type:dict" => ((k_here; (with_reducible show wpAny _ _ (call (Value.type "dict") [Value.ref _]) _ _ _); k_dflt (refine' dict_pairs_K ?kh ?k1 ?k2 ?k3 ?k4 ?k5 ?k6 ?_; (case kh => exact rfl); (case k1 => k_asm); (case k2 => k_asm); (case k3 => exact modules_low (Top.nolimit (by k_asm))); (case k4 => k_mem); (case k5 => assumption); (case k6 => omega); k_whole; intro d' o' h' tk' F' N' l1 lo' hd')))
  k_with "call type:list" => ((k_here; (with_reducible show wpAny _ _ (call (Value.type "list") [Value.ref _]) _ _ _); k_dflt (refine' list_items_K ?kh ?k1 ?k2 ?k3 ?k4 ?k5 ?k6 ?_; (case kh => exact rfl); (case k1 => k_asm); (case k2 => k_asm); (case k3 => k_mem); (case k4 => k_mem); (case k5 => k_asm); (case k6 => omega); k_whole; intro lS its9 c9 extra9 h' tk' F' N' hP9)))
  k_with "call type:dict" => ((k_here; (with_reducible show wpAny _ _ (call (Value.type "dict") [Value.ref _]) _ _ _); k_dflt (refine' dict_pairs_drop ?kh ?k1 ?k2 ?k3 ?k4 ?k5 ?k6 ?_; (case kh => exact rfl); (case k1 => k_asm); (case k2 => k_asm); (case k3 => exact modules_low (Top.nolimit (by k_asm))); (case k4 => exact rfl); (case k5 => assumption); (case k6 => omega); k_whole; intro dK oK h' tk' F' N' lK loK hdK; (try simp only [AllLt, and_true] at lK))))
  k_with "call ref" => ((k_here; k_dflt (refine' take_F ?k1 ?k2 ?k3 ?k4 ?k5 ?k6 ?k7 ?k8 ?k9 ?ka ?kb ?kc ?kd ?ke ?kf ?kg ?kh ?_; (case k1 => k_asm); (case k2 => k_asm); (case k3 => k_asm); (case k4 => k_asm); (case k5 => k_asm); (case k6 => first | exact rfl | assumption); (case k7 => k_updF); (case k8 => k_mem); (case k9 => assumption); (case ka => omega); (case kb => omega); (case kc => decide); (case kd => decide); (case ke => omega); (case kf => ktr_room); (case kg => ktr_units); (case kh => assumption); k_whole; intro rr tr tp h' tk' hr0 hr1 F' N'; (try dsimp only at N'))))
  k_with "call ref" => ((k_here; k_dflt (refine' own_K ?k1 ?k2 ?k3 ?k4 ?k5 ?k6 ?k7 ?k8 ?k9 ?ka ?kb ?kc ?kd ?ke ?_; (case k1 => k_asm); (case k2 => k_asm); (case k3 => k_asm); (case k4 => k_asm); (case k5 => k_asm); (case k6 => first | exact rfl | assumption); (case k7 => k_mem); (case k8 => k_asm); (case k9 => k_asm); (case ka => ktr_room); (case kb => ktr_units); (case kc => first | assumption | omega | decide); (case kd => first | assumption | omega | decide); (case ke => first | assumption | exact allStr_nil); k_whole; intro qo to h' tk' F' N' l1; (try simp only [AllLt, and_true] at l1))))
  k_with "cj" => (with_reducible (first | assumption | exact And.right (by first | assumption | exact And.right (by first | assumption | exact And.right (by first | assumption | exact And.right (by first | assumption | exact And.right (by first | assumption | exact And.right (by first | assumption | exact And.right (by first | assumption | exact And.right (by first | assumption | exact And.right (by first | assumption | exact And.right (by first | assumption | exact And.right (by first | assumption | exact And.right (by first | assumption | exact And.right (by first | assumption | exact And.right (by first | assumption | exact And.right (by first | assumption | exact And.right (by first | assumption | exact And.right (by first | assumption | exact And.right (by first | assumption | exact And.right (by first | assumption | exact And.right (by first | assumption | exact And.right (by first | assumption | exact And.right (by first | assumption | exact And.right (by first | assumption | exact And.right (by first | assumption | exact And.right (by first | assumption | exact And.right (by assumption))))))))))))))))))))))))))))
  k_with "ne" => (first | exact Nat.ne_of_gt (And.left (by k_extra "cj")) | exact Nat.ne_of_lt (And.left (by k_extra "cj")) | exact Nat.ne_of_gt (by with_reducible assumption) | exact Nat.ne_of_lt (by with_reducible assumption) | exact Nat.ne_of_gt (by k_extra "cj") | exact Nat.ne_of_lt (by k_extra "cj") | (refine neN ?_; (try dsimp only); omega))
  k_with "all" => (first | exact List.forall_mem_nil _ | (refine' List.forall_mem_cons.mpr ⟨?a, ?b⟩; (case a => first | exact Nat.ne_of_lt (And.left (by k_extra "cj")) | k_ne); (case b => k_all)) | assumption | exact allLt_ne (by k_extra "cj") | exact gt_ne (by assumption) (by first | assumption | omega) | fail "k_all")
  k_with "call ref" => ((k_here; k_dflt (refine' own3_K ?k1 ?k2 ?k3 ?k4 ?k5 ?k6 ?k7 ?k8 ?k9 ?ka ?kb ?kc ?kd ?ke ?_ ?_ ?_; (case k1 => k_asm); (case k2 => k_asm); (case k3 => k_asm); (case k4 => k_asm); (case k5 => k_asm); (case k6 => first | exact rfl | assumption); (case k7 => k_mem); (case k8 => k_asm); (case k9 => k_asm); (case ka => ktr_room); (case kb => ktr_units); (case kc => first | assumption | omega | decide); (case kd => first | assumption | omega | decide); (case ke => first | assumption | exact K3.nil); k_whole; all_goals (intro qo to h' tk' eO9 F' N' l1; (try simp only [AllLt, and_true] at l1)))))
  k_with "eval Dict" => ((k_here; k_dflt (first
        | (refine' kdn_str ?q ?F ?N ?b ?a ?l ?e ?n ?_; (case q => rfl); (case F => k_asm); (case N => first | k_asm | exact News.nil); (case b => exact Top.nolimit (by k_asm)); (case a => rfl); (case l => rfl); (case e => exact List.cons_ne_nil _ _); (case n => exact Nat.le_of_ble_eq_true rfl))
        | (refine' kdn_int ?q ?F ?N ?b ?a ?l ?e ?n ?_; (case q => rfl); (case F => k_asm); (case N => first | k_asm | exact News.nil); (case b => exact Top.nolimit (by k_asm)); (case a => rfl); (case l => rfl); (case e => exact List.cons_ne_nil _ _); (case n => exact Nat.le_of_ble_eq_true rfl))); intro d' h' o' F' N' l1 lo' hd'; (try k_lt l1)))
  k_with "setItem ref str" => ((k_here; k_dflt (refine' kda_set (knd := PySem.strKind _ _) ?F ?N ?U ?d (strKind_is _ _ _ _) ?z ?_; (case F => k_asm); (case N => k_asm); (case U => k_updF); (case d => assumption); (case z => rw [sizeLine_eq]; omega)); intro h' o' F' N' hdS'; (try dsimp only at N')))
  k_with "my sub" => (((repeat (refine List.forall_mem_cons.mpr ⟨by k_mem, ?_⟩)); first | exact List.forall_mem_nil _ | (intro p hp; repeat (first | exact hp | refine List.Mem.tail _ ?_))))
  k_with "execs cons" => (first | (k_here; k_gentoks) | ((with_reducible refine wpAny_execs_cons ?_); try dsimp only))
  k_with "assignInOrder" => ((dsimp only; walk_at "assignInOrder"))
  k_with "enter" => (first
        | (refine' code_def ?k1 ?k2 ?k3 ?k4 ?k5 ?kA ?kF ?kK ?k6 ?k7 ?k8 ?k9 ?kB ?_ ?c2 ?c3 ?c4 ?c5; (case kA => exact rfl); (case kF => exact rfl); (case kK => first | exact rfl | assumption); (case k1 => k_asm); (case k2 => k_asm); (case k3 => k_asm); (case k4 => k_asm); (case k5 => k_asm); (case k6 => k_is); (case k7 => k_is); (case k8 => ktr_room); (case k9 => first | exact BindsTo.of_eq rfl | exact binds_K (by k_in) rfl (by k_is) rfl rfl rfl | fail "k_enter: no rule for these arguments"); (case c5 => decide); (case kB => exact locs rfl); (case c2 => exact rfl); (case c3 => exact rfl); (case c4 => exact rfl); k_whole; intro g' L' h' FG' F' N' B' X' T'; (try dsimp only); (try k_lift B'); (try k_fold)))
  k_with "call type:list" => ((k_here; (with_reducible show wpAny _ _ (call (Value.type "list") [Value.ref _]) _ _ _); k_dflt (refine' list_keys_K ?kh ?k1 ?k2 ?k3 ?k4 ?k5 ?k6 ?_; (case kh => exact rfl); (case k1 => k_asm); (case k2 => k_asm); (case k3 => k_mem); (case k4 => assumption); (case k5 => k_asm); (case k6 => omega); k_whole; intro lN2 cN2 vsN h' tk' hvN F' N' lNN; (try simp only [AllLt, and_true] at lNN))))
  k_with "binaryOp Add ref ref" => ((k_here; (with_reducible show wpAny _ _ (binaryOp _ (Value.ref _) (Value.ref _)) _ _ _); k_dflt (refine' add_lists_K ?F ?N ?a ?b ?z ?_; (case F => k_asm); (case N => k_asm); (case a => k_mem); (case b => k_mem); (case z => walk_at "my len")); intro D' h' F' N' l1; (try simp only [AllLt, and_true] at l1)))
  k_with "my len" => (((have hLn9 := strsAre_len hvN); (simp only [List.length_append, List.length_map, List.length_cons, List.length_nil] at *); omega))
  k_with "exec Assign cons ListComp" => ((k_here; (with_reducible show wpAny _ _ (exec (.Assign _ (.ListComp _ [⟨_, .Attribute _ _ _, _, _⟩] _ _) _) _) _ _ _); k_dflt (refine Assign_ListComp_TD (knd := PySem.strKind _ _) (by k_asm) (by rfl) (by with_unfolding_all rfl) (by with_unfolding_all rfl) (by decide) (by rfl) (by decide) (by rfl) (by rfl) (by rfl) ?_)))
  k_with "compareOp In str ref" => ((k_here; k_dflt (refine in_words_K (by k_asm) (by k_mem) hWd ?_)))
  k_with "getItem ref str" => ((k_here; k_dflt (refine kdt_getItem (knd := PySem.strKind _ _) (by k_asm) (by k_mem) (by k_asm) (strKind_is _ _ _ _) (by assumption) ?_)))
  k_with "my go" => (repeat' ((fail_if_success with_reducible refine strRest_at ?_); (fail_if_success with_reducible refine itemsRest_at ?_); first | (k_unfold; (try dsimp only)) | walk1 | (dsimp only; walk1) | fail "no step"))
  k_with "getAttr ref" => ((k_here; k_dflt (refine' get_attr_K ?k1 ?k2 ?k3 ?h1 ?h2 ?k4 ?k5 ?k6 ?k7 ?hA ?hl ?k9 ?_; (case k1 => k_asm); (case k2 => k_asm); (case k3 => k_asm); (case h1 => k_mem); (case h2 => k_mem); (case k4 => k_is); (case k5 => k_is); (case k6 => k_is); (case k7 => k_is); (case hA => assumption); (case hl => with_unfolding_all rfl); (case k9 => k_handed); k_whole)))
  k_with "setAttr ref" => ((k_here; k_dflt (refine' set_attr_K ?k1 ?k2 ?k3 ?h1 ?h2 ?k4 ?k5 ?k6 ?k7 ?U ?hA ?hl ?z ?_; (case k1 => k_asm); (case k2 => k_asm); (case k3 => k_asm); (case h1 => k_mem); (case h2 => k_mem); (case k4 => k_is); (case k5 => k_is); (case k6 => k_is); (case k7 => k_is); (case U => k_updF); (case hA => assumption); (case hl => with_unfolding_all rfl); (case z => omega); k_whole; intro h' es' F' N' hA' hz'; (try dsimp only at N'))))
  k_with "setAttr ref" => ((k_here; k_dflt (refine' set_attr_S ?k1 ?k2 ?k3 ?h1 ?h2 ?hne ?k4 ?k5 ?k6 ?k7 ?hA ?hl ?z ?_; (case k1 => k_asm); (case k2 => k_asm); (case k3 => k_asm); (case h1 => k_mem); (case h2 => k_mem); (case hne => exact hne9); (case k4 => k_is); (case k5 => k_is); (case k6 => k_is); (case k7 => k_is); (case hA => assumption); (case hl => with_unfolding_all rfl); (case z => omega); k_whole; intro h' es' T' F' N' hT' hx' hsub' hA' hz'; (have hK' : (dK, oK) ∈ T' := hsub' _ (by k_mem) hKne9))))
  k_with "setAttr ref" => ((k_here; k_dflt (refine' set_attr_K ?k1 ?k2 ?k3 ?h1 ?h2 ?k4 ?k5 ?k6 ?k7 ?U ?hA ?hl ?z ?_; (case k1 => k_asm); (case k2 => k_asm); (case k3 => k_asm); (case h1 => k_mem); (case h2 => exact List.Mem.head _); (case k4 => k_is); (case k5 => k_is); (case k6 => k_is); (case k7 => k_is); (case U => exact UpdF.head (by assumption)); (case hA => assumption); (case hl => with_unfolding_all rfl); (case z => omega); k_whole; intro h' es' F' N' hA' hz'; (try dsimp only at N'))))
  k_with "my tl" => (repeat (first | exact hp | refine List.Mem.tail _ ?_))
  trivial

theorem xfin2_h : xfin1_pk.P1 := by
  intro w; unhygienic intros
  have hne9 : x_1 ≠ d_1 := Nat.ne_of_gt zo4.1
  have hKne9 : dK ≠ d_1 := Nat.ne_of_gt zo7.2.2.2.1
  obtain ⟨T', N1, hT', hs9⟩ := news_split (d := d_1) (o := dictOf es' 28) N0 (by k_mem)
  have hx' : (x_1, instObj 114 d_1) ∈ T' := hs9 _ (by k_mem) hne9
  have hK' : (dK, oK) ∈ T' := hs9 _ (by k_mem) hKne9
  clear N0
  walk_at "my go"
  rename_i T_y1 h_y1 es_y1 hA_y1 hz_y1 tk_y1 T_y2 hT_y1 hx_y1 hK_y1 d_y1 h_y2 o_y1 lo_y1 hd_y1 l1_y1 l_y1 h_y3 l1_y2 D_y1 h_y4 l1_y3 h_y5 o_y2 hd_y2 D_y2 h_y6 l1_y4 l_y2 h_y7 l1_y5 D_y3 h_y8 l1_y6 h_y9 h_y10 es_y2 T_y3 hT_y2 hx_y2 hsub_y1 hA_y2 hz_y2 hK_y2 h_y11 es_y3 hA_y3 hz_y3 h_y12 es_y4 hA_y4 hz_y4 h_y13 es_y5 hA_y5 hz_y5 tk_y2 D_y4 h_y14 l1_y7 h_y15 h_y16 es_y6 T_y4 hT_y3 hx_y3 hsub_y2 hA_y6 hz_y6 hK_y3 h_y17 es_y7 hA_y7 hz_y7 h_y18 es_y8 hA_y8 hz_y8 h_y19 es_y9 hA_y9 hz_y9 tk_y3 d_y2 h_y20 o_y3 lo_y2 hd_y3 l1_y8 h_y21 o_y4 hd_y4 hf_y1 d_y3 h_y22 o_y5 lo_y3 hd_y5 l1_y9 d_y4 h_y23 o_y6 lo_y4 hd_y6 l1_y10 h_y24 o_y7 hd_y7 hc0_y1 h_y25 o_y8 hd_y8 h_y26 D_y5 h_y27 l1_y11 h_y28 o_y9 hd_y9 D_y6 h_y29 l1_y12 h_y30 h_y31 es_y10 T_y5 hT_y4 hx_y4 hsub_y3 hA_y10 hz_y10 hK_y4 h_y32 es_y11 hA_y11 hz_y11 h_y33 es_y12 hA_y12 hz_y12 tk_y4 l_y3 h_y34 l1_y13 l_y4 h_y35 l1_y14 h_y36 hk_y1 nm_y1 h_y37 h_y38 es_y13 T_y6 hT_y5 hx_y5 hsub_y4 hA_y13 hz_y13 hK_y5 h_y39 es_y14 hA_y14 hz_y14 h_y40 es_y15 hA_y15 hz_y15 h_y41 es_y16 hA_y16 hz_y16 h_y42 es_y17 hA_y17 hz_y17 h_y43 es_y18 hA_y18 hz_y18 tk_y5 l_y5 h_y44 l1_y15 l_y6 h_y45 l1_y16 h_y46 hk_y2 nm_y2 h_y47 F_y1 N_y1 h_y48 es_y19 F_y2 N_y2 hA_y19 hz_y19 h_y49 es_y20 F_y3 N_y3 hA_y20 hz_y20 kF_y1 kN_y1 Tc_y1 kX_y1
  have FF9 := F'
  have s5 : ∀ p ∈ T_y6, p ∈ T' := fun p hp => hsub' p (by walk_at "my tl") (hT_y5 p hp)
  have s4 : ∀ p ∈ T_y5, p ∈ T' := fun p hp => s5 p (hsub_y4 p (by walk_at "my tl") (hT_y4 p hp))
  have s3 : ∀ p ∈ T_y4, p ∈ T' := fun p hp => s4 p (hsub_y3 p (by walk_at "my tl") (hT_y3 p hp))
  have s2 : ∀ p ∈ T_y3, p ∈ T' := fun p hp => s3 p (hsub_y2 p (by walk_at "my tl") (hT_y2 p hp))
  have s1 : ∀ p ∈ T_y2, p ∈ T' := fun p hp => s2 p (hsub_y1 p (by walk_at "my tl") (hT_y1 p hp))
  have md2 : (d_2, oN) ∈ T' := s1 _ (hs9 _ (by k_mem) (Nat.ne_of_gt zo5.2.1))
  have md3 : (d_3, oA) ∈ T' := s1 _ (hs9 _ (by k_mem) (Nat.ne_of_gt zo6.2.2.1))
  have mlA : (lA, oL) ∈ T' := s1 _ (hs9 _ (by k_mem) (Nat.ne_of_lt zo3.1))
  have mpo : (pot, W.listOf #[.int k2 t2, .ref scr] ep) ∈ T' := s1 _ (hs9 _ (by k_mem) (Nat.ne_of_lt zo3.2.1))
  have msc : (scr, W.listOf ws.toArray 0) ∈ T' := s1 _ (hs9 _ (by k_mem) (Nat.ne_of_lt zo3.2.2))
  have mv : ∀ p ∈ vals2, p ∈ T' := fun p hp => s1 p (hs9 p (by walk_at "my tl") (Nat.ne_of_gt (Nat.lt_trans zo7.2.2.2.1 (hvs2 p hp))))
  have mfi := s4 _ (hsub_y3 (d_y2, _) (by k_mem) (Nat.ne_of_gt l1_y8.1))
  have mop := s4 _ (hsub_y3 (d_y3, _) (by k_mem) (Nat.ne_of_gt l1_y9.2.1))
  have mom := s4 _ (hsub_y3 (d_y4, _) (by k_mem) (Nat.ne_of_gt l1_y10.2.2.1))
  have mfe := s4 _ (hsub_y3 (d', _) (by k_mem) (Nat.ne_of_gt l1.2.2.2.1))
  have mft := s4 _ (hsub_y3 (D_y5, _) (by k_mem) (Nat.ne_of_gt l1_y11.2.2.2.2.1))
  have mou := s5 _ (hsub_y4 (l_y3, _) (by k_mem) (Nat.ne_of_gt l1_y13.1))
  have min := s5 _ (hsub_y4 (l_y4, _) (by k_mem) (Nat.ne_of_gt l1_y14.2.1))
  have mtr := hsub' (l_y5, _) (by k_mem) (Nat.ne_of_gt l1_y15.1)
  refine' ret x_1 d_1 d_2 d_3 dK _ ?ouA ?inA ?fiA ?opA ?feA _ ?trA _ oN oA oK kvsN kvsA _ _ _ _ _ _ _ _ _ _ _ _ ((?fiA, ?oFi) :: (?opA, ?oOp) :: (?omA, ?oOm) :: (?feA, ?oFe) :: (?ftA, tupOf [.int 1 ?ta, .int 0 ?tb, .int 2 ?tc]) :: (?ouA, W.listOf #[.str (Str.ofString "one") ?td] 0) :: (?inA, W.listOf #[.str (Str.ofString "in") ?te] 0) :: (?trA, W.listOf #[.int 10 ?tf, .int 40 ?tg] 0) :: vals2) _ _ kF_y1 ?N ?kp ?k ?o ?b lo_1 lo_2 loK hN ?n1 ?hNl hAd ?n2 ?hAl hdK
    ⟨?oFi, ?oOp, ?oOm, ?oFe, ?omA, ?ftA, ?ta, ?tb, ?tc, ?td, ?te, ?tf, ?tg, ?th, ?ti, ?tj, ⟨List.Mem.head _, List.Mem.tail _ (List.Mem.head _), List.Mem.tail _ (List.Mem.tail _ (List.Mem.head _)), List.Mem.tail _ (List.Mem.tail _ (List.Mem.tail _ (List.Mem.head _))), List.Mem.tail _ (List.Mem.tail _ (List.Mem.tail _ (List.Mem.tail _ (List.Mem.head _)))), List.Mem.tail _ (List.Mem.tail _ (List.Mem.tail _ (List.Mem.tail _ (List.Mem.tail _ (List.Mem.head _))))), List.Mem.tail _ (List.Mem.tail _ (List.Mem.tail _ (List.Mem.tail _ (List.Mem.tail _ (List.Mem.tail _ (List.Mem.head _)))))), List.Mem.tail _ (List.Mem.tail _ (List.Mem.tail _ (List.Mem.tail _ (List.Mem.tail _ (List.Mem.tail _ (List.Mem.tail _ (List.Mem.head _)))))))⟩, ?f1, ?f2, ?f3, ?f4, ?g1, ?g2, ?g3, ?g4⟩ ?hA ?hE
  case hE => assumption
  case f1 => assumption
  case f2 => assumption
  case f3 => assumption
  case f4 => assumption
  case N => exact news_sub kN_y1 (by (repeat (refine List.forall_mem_cons.mpr ⟨by k_mem, ?_⟩)); exact fun p hp => .tail _ (mv p hp))
  case hA => exact hA'.sub (by repeat (first | exact List.forall_mem_nil _ | refine List.forall_mem_cons.mpr ⟨by with_unfolding_all rfl, ?_⟩))
  case kp => exact kept3 (kept_of kG' FF9) N (kN_y1 (lA, oL) (.tail _ mlA)).1 (kN_y1 (scr, W.listOf ws.toArray 0) (.tail _ msc)).1
  case k => omega
  case o => omega
  case b => exact List.forall_mem_cons.mpr ⟨allLt_mem l1_y8.2 hK_y3, List.forall_mem_cons.mpr ⟨allLt_mem l1_y9.2.2 hK_y3, List.forall_mem_cons.mpr ⟨allLt_mem l1_y10.2.2.2 hK_y3, List.forall_mem_cons.mpr ⟨allLt_mem l1.2.2.2.2 hK_y3, List.forall_mem_cons.mpr ⟨allLt_mem l1_y11.2.2.2.2.2 hK_y3, List.forall_mem_cons.mpr ⟨allLt_mem l1_y13.2 hK_y4, List.forall_mem_cons.mpr ⟨allLt_mem l1_y14.2.2 hK_y4, List.forall_mem_cons.mpr ⟨allLt_mem l1_y15.2 hK_y5, hvs2⟩⟩⟩⟩⟩⟩⟩⟩
  case n1 => exact hNo.mono fun p hp => .tail _ (.tail _ (.tail _ (.tail _ (.tail _ (.tail _ (.tail _ (.tail _ (hsub2 p hp))))))))
  case hNl => assumption
  case n2 => exact hAo.mono fun p hp => .tail _ (.tail _ (.tail _ (.tail _ (.tail _ (.tail _ (.tail _ (.tail _ hp)))))))
  case hAl => assumption
  all_goals assumption

theorem xfin1_h : world_K_pk.P2 := xfin1_pk.go9 ⟨@xfin2_h⟩

section
variable {w : World} {mean : ExcName → Option Value} {mg mb : Str → Option Value} {dp un : Nat} {gd : Option (List Code)} {cn : Str} {cs : Scope} {a : Addr} {ccd : Value} {cl : List (Str × Addr)} {outer : List Env} {A₀ : Around} {base h₀ : Heap} {L : Addr} {m : Str → Option Value} {s : Shared} {Q E : Value → Shared → Prop} {news news' : List (Addr × Obj)}
theorem world_K {pot scr lA : Addr} {n : Int} {t : Tok} {ep : Nat} {ws : List Value} {ns : List Int} {oL : Obj} {kvsL : List (Str × Value)}
    (B : Below A₀ base outer h₀) (F : Fr h₀ L s.heap m) (X : (hd.heap_39 w.params).In h₀)
    (N : News h₀ L s.heap [(lA, oL), (pot, listOf #[.int n t, .ref scr] ep), (scr, listOf ws.toArray 0)])
    (T : Top hd.view_39 (looseW hd.view_39 [Str.ofString "BasicError"]) mean mg mb h₀) (hk : cs.kind = .function)
    (hI : IntsAre ws ns) (hn : 0 ≤ n) (hn2 : n ≤ 100) (hps : @LT.lt Nat _ scr pot) (hpl : @LT.lt Nat _ pot lA) (hlen : ns.length ≤ 48)
    (hkd : oL.IsDictOf (PySem.strKind PySem.Challenge.rw_pf0005_01.row.prog w) kvsL) (loL : (lA == sysModules) = false) (hv : K3 kvsL) (hvl : kvsL.length ≤ 100)
    (hd : dp + 3 < recursionLimit) (_hu : un + 32 < cLine)
    (ret : ∀ (xA dx nA aA kA fA ouA inA fiA opA feA daA trA coA : Addr) (oN oA oK : Obj) (kvsN kvsA : List (Str × Value)) (k : Int) (es : List DictEntry) (w1 w2 w3 w4 w5 w6 w7 w8 w9 tp : Tok) (rest : List (Addr × Obj)) (h' : Heap) (tk' : Nat),
      Fr h₀ L h' m → News h₀ L h' ((xA, instObj 114 dx) :: (dx, dictOf es 28) :: (nA, oN) :: (aA, oA) :: (kA, oK) :: (lA, oL) :: (pot, W.listOf #[.int k tp, .ref scr] ep) :: (scr, W.listOf ws.toArray 0) :: rest) → Kept [pot] s.heap h' →
      k = n + 12 → (@LT.lt Nat _ lA dx ∧ @LT.lt Nat _ dx xA ∧ @LT.lt Nat _ xA nA ∧ @LT.lt Nat _ nA aA ∧ @LT.lt Nat _ aA kA) → (∀ p ∈ rest, @LT.lt Nat _ kA p.1) →
      (nA == sysModules) = false → (aA == sysModules) = false → (kA == sysModules) = false →
      oN.IsDictOf (PySem.strKind PySem.Challenge.rw_pf0005_01.row.prog w) kvsN → NamesOK rest kvsN → kvsN.length ≤ 8 → oA.IsDictOf (PySem.strKind PySem.Challenge.rw_pf0005_01.row.prog w) kvsA → ArrsOK rest kvsA → kvsA.length ≤ 4 →
      oK.IsDictOf (PySem.strKind PySem.Challenge.rw_pf0005_01.row.prog w) kvsL → Stays PySem.Challenge.rw_pf0005_01.row.prog w rest fiA opA feA ouA inA trA →
      HasA es [(Str.ofString "names", .ref nA), (Str.ofString "arrays", .ref aA), (Str.ofString "kinds", .ref kA), (Str.ofString "fns", .ref fA), (Str.ofString "out", .ref ouA), (Str.ofString "row", .str (Str.ofString "two") w1), (Str.ofString "inputs", .ref inA), (Str.ofString "files", .ref fiA), (Str.ofString "open", .ref opA), (Str.ofString "fields", .ref feA), (Str.ofString "data", .ref daA), (Str.ofString "spot", .int 1 w2), (Str.ofString "base", .int 1 w3), (Str.ofString "seed", .int 77 w4), (Str.ofString "steps", .int 5 w5), (Str.ofString "depth", .int 2 w6), (Str.ofString "handler", .int 50 w7), (Str.ofString "is_handling", .bool true), (Str.ofString "error_line", .int 40 w8), (Str.ofString "error_code", .str (Str.ofString "DZ") w9), (Str.ofString "is_traced", .bool true), (Str.ofString "traces", .ref trA), (Str.ofString "common", .ref coA)] → es.length ≤ 1000 → Q (.ref xA) { s with heap := h', toks := tk' }) :
    wpAny (model PySem.Challenge.rw_pf0005_01.row.prog w) (ktrTop dp un gd cn cs L a ccd cl outer) (call (.ref 160) [.ref pot, .ref lA]) Q E s := by
  have h9 : world_K_S := world_K_pk.go9 ⟨@xturn1_h⟩ ⟨@xfin1_h⟩
  unfold world_K_S at h9
  exact h9 B F X N T hk hI hn hn2 hps hpl hlen hkd loL hv hvl hd _hu ret
end

theorem rows_15 : True := by
  k_with_none
  k_with "my enter" => ((refine wpAny_call ?_; k_dflt (refine' code_defG ?k1 ?k2 ?k3 ?k4 ?k5 ?kA ?kF ?kK ?k6 ?k7 ?k8 ?k9 ?kB ?_ ?c2 ?c3 ?c4 ?c5; (case kA => exact rfl); (case kF => exact rfl); (case kK => assumption); (case k1 => k_asm); (case k2 => k_asm); (case k3 => k_asm); (case k4 => k_asm); (case k5 => k_asm); (case k6 => k_is); (case k7 => k_is); (case k8 => ktr_room); (case k9 => exact BindsTo.of_eq rfl); (case c5 => decide); (case kB => exact locs rfl); (case c2 => exact rfl); (case c3 => exact rfl); (case c4 => exact rfl); k_whole; intro g' L' h' FG' F' N' B' X' T' kG'; (try dsimp only); (try k_lift B'); (try k_fold))))
  k_with "my enterC" => ((refine wpAny_call ?_; k_dflt (refine' code_defC ?k1 ?k2 ?k3 ?k4 ?k5 ?kA ?kF ?kK ?k6 ?k7 ?k8 ?k9 ?kB ?kD ?_ ?c2 ?c3 ?c4; (case kA => exact rfl); (case kF => exact rfl); (case kK => assumption); (case k1 => k_asm); (case k2 => k_asm); (case k3 => k_asm); (case k4 => k_asm); (case k5 => k_asm); (case k6 => k_is); (case k7 => k_is); (case k8 => ktr_room); (case k9 => exact BindsTo.of_eq rfl); (case kB => exact rfl); (case kD => decide +kernel); (case c2 => exact rfl); (case c3 => exact rfl); (case c4 => exact rfl); k_whole; intro g' L' h' tk' cells' FG' F' N' Y' B' X' T' l1; (try k_lt l1); (obtain ⟨oc, hE', d1⟩ := CellsAre.one Y'; subst hE'; clear Y'); (try simp only [List.cons_append, List.nil_append] at N'); (try dsimp only); (try k_lift B'); (try k_fold))))
  k_with "ite" => (first | with_reducible refine ite_tt ?_ | with_reducible refine ite_ff ?_)
  k_with "call ref" => ((k_here; k_dflt (refine' kind_K ?k1 ?k2 ?k3 ?k4 ?k5 ?k6 ?k7 ?k8 ?k9 ?ka ?kb ?kc ?kd ?ke ?_; (case k1 => k_asm); (case k2 => k_asm); (case k3 => k_asm); (case k4 => k_asm); (case k5 => k_asm); (case k6 => first | exact rfl | assumption); (case k7 => k_mem); (case k8 => k_asm); (case k9 => k_asm); (case ka => ktr_room); (case kb => ktr_units); (case kc => first | assumption | omega); (case kd => first | assumption | omega); (case ke => first | assumption | exact allStr_nil); k_whole; intro t' h' tk' F' N' cE')))
  k_with "call ref" => ((k_here; k_dflt (refine' isarr_K ?k1 ?k2 ?k3 ?k4 ?k5 ?k6 ?ka ?kb ?kc ?kd ?_; (case k1 => k_asm); (case k2 => k_asm); (case k3 => k_asm); (case k4 => k_asm); (case k5 => k_asm); (case k6 => first | exact rfl | assumption); (case ka => ktr_room); (case kb => ktr_units); (case kc => first | assumption | omega); (case kd => first | assumption | omega); k_whole; intro h' tk' F' N')))
  k_with "call ref" => ((k_here; k_dflt (refine' means_K ?k1 ?k2 ?k3 ?k4 ?k5 ?k6 ?k7 ?k71 ?k72 ?k73 ?k8 ?k9 ?ka ?kb ?kc ?kd ?ke ?_; (case k1 => k_asm); (case k2 => k_asm); (case k3 => k_asm); (case k4 => k_asm); (case k5 => k_asm); (case k6 => first | exact rfl | assumption); (case k71 => k_mem); (case k72 => k_mem); (case k73 => first | assumption | k_get); (case k7 => k_mem); (case k8 => k_asm); (case k9 => k_asm); (case ka => ktr_room); (case kb => ktr_units); (case kc => first | assumption | omega | exact (hkl _ (by assumption)).1); (case kd => first | assumption | omega | exact (hkl _ (by assumption)).2); (case ke => first | assumption | exact allStr_nil); k_whole; intro h' tk' F' N')))
  k_with "getAttr ref" => ((k_here; k_dflt (refine' get_own ?F ?X ?I ?g ?h ?a ?n ?l ?v ?_; (case F => k_asm); (case X => k_asm); (case I => k_inst); (case g => k_is); (case h => k_is); (case a => k_is); (case n => k_is); (case l => assumption); (case v => k_handed); k_whole)))
  k_with "exec Assign cons ListComp" => ((k_here; k_dflt (refine LCt.Assign_ListComp_T (F₀ := by k_asm) (by rfl) (by with_unfolding_all rfl) (by with_unfolding_all rfl) (by decide) (by rfl) (by decide) (by rfl) (by rfl) (by rfl) ?_)))
  k_with "eval ListComp" => ((k_here; k_dflt (refine LCt.ListComp_T (F₀ := by k_asm) (by with_unfolding_all rfl) (by decide) (by rfl) (by decide) (by rfl) ?_)))
  k_with "compareOp In str ref" => ((k_here; k_dflt (refine kda_in (knd := PySem.strKind _ _) (by k_asm) (by k_mem) (by k_asm) (by k_asm) (strKind_is _ _ _ _) ((valueAt _ _).isSome) (by rfl) ?_)))
  k_with "subscriptTail" => ((k_here; (with_reducible show wpAny _ _ (subscriptTail _ _ (Value.ref _) (Value.str _ _)) _ _ _); (obtain ⟨v9, hv9⟩ := Option.isSome_iff_exists.mp (by assumption : (valueAt _ _).isSome = true)); k_dflt (refine kda_item (knd := PySem.strKind _ _) (by k_asm) (by k_mem) (by k_asm) (strKind_is _ _ _ _) hv9 ?_)))
  k_with "call type:dict" => ((k_here; (with_reducible show wpAny _ _ (call (Value.type "dict") [Value.ref _]) _ _ _); k_dflt (refine' dict_pairs_K ?kh ?k1 ?k2 ?k3 ?k4 ?k5 ?k6 ?_; (case kh => exact rfl); (case k1 => k_asm); (case k2 => k_asm); (case k3 => exact modules_low (Top.nolimit (by k_asm))); (case k4 => k_mem); (case k5 => assumption); (case k6 => omega); k_whole; intro d' o' h' tk' F' N' l1 lo' hd')))
  k_with "call type:list" => ((k_here; (with_reducible show wpAny _ _ (call (Value.type "list") [Value.ref _]) _ _ _); k_dflt (refine' list_items_K ?kh ?k1 ?k2 ?k3 ?k4 ?k5 ?k6 ?_; (case kh => exact rfl); (case k1 => k_asm); (case k2 => k_asm); (case k3 => k_mem); (case k4 => k_mem); (case k5 => k_asm); (case k6 => omega); k_whole; intro lS its9 c9 extra9 h' tk' F' N' hP9)))
  k_with "call type:dict" => ((k_here; (with_reducible show wpAny _ _ (call (Value.type "dict") [Value.ref _]) _ _ _); k_dflt (refine' dict_pairs_drop ?kh ?k1 ?k2 ?k3 ?k4 ?k5 ?k6 ?_; (case kh => exact rfl); (case k1 => k_asm); (case k2 => k_asm); (case k3 => exact modules_low (Top.nolimit (by k_asm))); (case k4 => exact rfl); (case k5 => assumption); (case k6 => omega); k_whole; intro dK oK h' tk' F' N' lK loK hdK; (try simp only [AllLt, and_true] at lK))))
  k_with "call ref" => ((k_here; k_dflt (refine' take_F ?k1 ?k2 ?k3 ?k4 ?k5 ?k6 ?k7 ?k8 ?k9 ?ka ?kb ?kc ?kd ?ke ?kf ?kg ?kh ?_; (case k1 => k_asm); (case k2 => k_asm); (case k3 => k_asm); (case k4 => k_asm); (case k5 => k_asm); (case k6 => first | exact rfl | assumption); (case k7 => k_updF); (case k8 => k_mem); (case k9 => assumption); (case ka => omega); (case kb => omega); (case kc => decide); (case kd => decide); (case ke => omega); (case kf => ktr_room); (case kg => ktr_units); (case kh => assumption); k_whole; intro rr tr tp h' tk' hr0 hr1 F' N'; (try dsimp only at N'))))
  k_with "call ref" => ((k_here; k_dflt (refine' own_K ?k1 ?k2 ?k3 ?k4 ?k5 ?k6 ?k7 ?k8 ?k9 ?ka ?kb ?kc ?kd ?ke ?_; (case k1 => k_asm); (case k2 => k_asm); (case k3 => k_asm); (case k4 => k_asm); (case k5 => k_asm); (case k6 => first | exact rfl | assumption); (case k7 => k_mem); (case k8 => k_asm); (case k9 => k_asm); (case ka => ktr_room); (case kb => ktr_units); (case kc => first | assumption | omega | decide); (case kd => first | assumption | omega | decide); (case ke => first | assumption | exact allStr_nil); k_whole; intro qo to h' tk' F' N' l1; (try simp only [AllLt, and_true] at l1))))
  k_with "cj" => (with_reducible (first | assumption | exact And.right (by first | assumption | exact And.right (by first | assumption | exact And.right (by first | assumption | exact And.right (by first | assumption | exact And.right (by first | assumption | exact And.right (by first | assumption | exact And.right (by first | assumption | exact And.right (by first | assumption | exact And.right (by first | assumption | exact And.right (by first | assumption | exact And.right (by first | assumption | exact And.right (by first | assumption | exact And.right (by first | assumption | exact And.right (by first | assumption | exact And.right (by first | assumption | exact And.right (by first | assumption | exact And.right (by first | assumption | exact And.right (by first | assumption | exact And.right (by first | assumption | exact And.right (by first | assumption | exact And.right (by first | assumption | exact And.right (by first | assumption | exact And.right (by first | assumption | exact And.right (by first | assumption | exact And.right (by first | assumption | exact And.right (by assumption))))))))))))))))))))))))))))
  k_with "ne" => (first | exact Nat.ne_of_gt (by with_reducible assumption) | exact Nat.ne_of_lt (by with_reducible assumption) | exact Nat.ne_of_gt (And.left (by k_extra "cj")) | exact Nat.ne_of_lt (And.left (by k_extra "cj")) | exact Nat.ne_of_gt (by k_extra "cj") | exact Nat.ne_of_lt (by k_extra "cj") | (refine neN ?_; (try dsimp only); omega))
  k_with "all" => (first | exact List.forall_mem_nil _ | (refine' List.forall_mem_cons.mpr ⟨?a, ?b⟩; (case a => first | exact Nat.ne_of_lt (And.left (by k_extra "cj")) | k_ne); (case b => k_all)) | assumption | exact allLt_ne (by k_extra "cj") | exact gt_ne (by assumption) (by first | assumption | omega) | fail "k_all")
  k_with "call ref" => ((k_here; k_dflt (refine' own3_K ?k1 ?k2 ?k3 ?k4 ?k5 ?k6 ?k7 ?k8 ?k9 ?ka ?kb ?kc ?kd ?ke ?_ ?_ ?_; (case k1 => k_asm); (case k2 => k_asm); (case k3 => k_asm); (case k4 => k_asm); (case k5 => k_asm); (case k6 => first | exact rfl | assumption); (case k7 => k_mem); (case k8 => k_asm); (case k9 => k_asm); (case ka => ktr_room); (case kb => ktr_units); (case kc => first | assumption | omega | decide); (case kd => first | assumption | omega | decide); (case ke => first | assumption | exact K3.nil); k_whole; all_goals (intro qo to h' tk' eO9 F' N' l1; (try simp only [AllLt, and_true] at l1)))))
  k_with "eval Dict" => ((k_here; k_dflt (first
        | (refine' kdn_str ?q ?F ?N ?b ?a ?l ?e ?n ?_; (case q => rfl); (case F => k_asm); (case N => first | k_asm | exact News.nil); (case b => exact Top.nolimit (by k_asm)); (case a => rfl); (case l => rfl); (case e => exact List.cons_ne_nil _ _); (case n => exact Nat.le_of_ble_eq_true rfl))
        | (refine' kdn_int ?q ?F ?N ?b ?a ?l ?e ?n ?_; (case q => rfl); (case F => k_asm); (case N => first | k_asm | exact News.nil); (case b => exact Top.nolimit (by k_asm)); (case a => rfl); (case l => rfl); (case e => exact List.cons_ne_nil _ _); (case n => exact Nat.le_of_ble_eq_true rfl))); intro d' h' o' F' N' l1 lo' hd'; (try k_lt l1)))
  k_with "setItem ref str" => ((k_here; k_dflt (refine' kda_set (knd := PySem.strKind _ _) ?F ?N ?U ?d (strKind_is _ _ _ _) ?z ?_; (case F => k_asm); (case N => k_asm); (case U => k_updF); (case d => assumption); (case z => rw [sizeLine_eq]; omega)); intro h' o' F' N' hdS'; (try dsimp only at N')))
  k_with "my sub" => (((repeat (refine List.forall_mem_cons.mpr ⟨by k_mem, ?_⟩)); first | exact List.forall_mem_nil _ | (intro p hp; repeat (first | exact hp | refine List.Mem.tail _ ?_))))
  k_with "execs cons" => (first | (k_here; k_gentoks) | ((with_reducible refine wpAny_execs_cons ?_); try dsimp only))
  k_with "assignInOrder" => ((dsimp only; walk_at "assignInOrder"))
  k_with "enter" => (first
        | (refine' code_def ?k1 ?k2 ?k3 ?k4 ?k5 ?kA ?kF ?kK ?k6 ?k7 ?k8 ?k9 ?kB ?_ ?c2 ?c3 ?c4 ?c5; (case kA => exact rfl); (case kF => exact rfl); (case kK => first | exact rfl | assumption); (case k1 => k_asm); (case k2 => k_asm); (case k3 => k_asm); (case k4 => k_asm); (case k5 => k_asm); (case k6 => k_is); (case k7 => k_is); (case k8 => ktr_room); (case k9 => first | exact BindsTo.of_eq rfl | exact binds_K (by k_in) rfl (by k_is) rfl rfl rfl | fail "k_enter: no rule for these arguments"); (case c5 => decide); (case kB => exact locs rfl); (case c2 => exact rfl); (case c3 => exact rfl); (case c4 => exact rfl); k_whole; intro g' L' h' FG' F' N' B' X' T'; (try dsimp only); (try k_lift B'); (try k_fold)))
  k_with "my go" => (repeat' ((fail_if_success with_reducible refine strRest_at ?_); (fail_if_success with_reducible refine itemsRest_at ?_); first | (k_unfold; (try dsimp only)) | walk1 | (dsimp only; walk1) | fail "no step"))
  trivial

noncomputable def law_pk : Pk2 PySem.Challenge.rw_pf0005_01.Holds := by
  apply Pk2.mk
  intro H1_9 H2_9
  exact hd (by
    k_go0
    all_goals try k_fold
    rename_i w s₀ s₁ mg mb G Y fa o pm doc ho hg KX X V GL T B TE TW a1 a2 M a3 a4 hcd ns hs hlay0 hL hr hl2 a6 a7 sA wv a9 hLi ra w1 r0 hI hr' hc1 hc2 K0 hD h1 tk1 F0 o4 o3 o2 o1 c4 c3 c2 c1 N0 X0
    clear G Y ho X V GL B TE TW M hcd hs hlay0 hL hr hl2 ra w1 r0 hr' hc2
    walk_at "my go"
    rename_i D_1 ws_1 h_1 hI_1 hC_1 hL_1 l1_1 l_1 h_2 l1_2 d_1 h_3 o_1 lo_1 hs_1 fs_1 hi_1 fi_1 l1_3 D_2 h_4 l1_4 h_5 h_6 o_2 d_2 h_7 o_3 d_3 i_1 l1_5
    have hlen : (List.take 48 ns).length ≤ 48 := by rw [hC_1]; exact Nat.min_le_left _ _
    have lz : @LT.lt Nat _ D_1 l_1 ∧ @LT.lt Nat _ l_1 d_1 ∧ @LT.lt Nat _ (s₁.heap.objs.size + 4) D_1 := by omega
    have lz2 := l1_5
    clear fs_1 hi_1 fi_1 l1_1 l1_2 l1_3 l1_4 l1_5 hL_1 hC_1 c1 c2 X0 hc1
    dsimp only
    generalize List.take 48 ns = ns' at hI_1 hlen
    generalize hw4 : o4 = o4', hw3 : o3 = o3'
    refine strRest_sub [(d_1, o_1), (l_1, W.listOf #[.int 0 tk1, .ref D_1] 0), (D_1, W.listOf ws_1.toArray 0), (s₁.heap.objs.size + 1 + 1 + 1 + 1, o4'), (s₁.heap.objs.size + 1 + 1 + 1, o3'), (s₁.heap.objs.size + 1 + 1, o_3), (s₁.heap.objs.size + 1, o_2)] ?sub ?_
    case sub => walk_at "my sub"
    refine strRest_inv3 (Str.ofString "told") (Str.ofString "told") (fun i nw => ∃ (oL : Obj) (kvsL : List (Str × Value)) (k : Int) (t1 : Tok), nw = [(d_1, oL), (l_1, W.listOf #[.int k t1, .ref D_1] 0), (D_1, W.listOf ws_1.toArray 0), (s₁.heap.objs.size + 1 + 1 + 1 + 1, o4'), (s₁.heap.objs.size + 1 + 1 + 1, o3'), (s₁.heap.objs.size + 1 + 1, o_3), (s₁.heap.objs.size + 1, o_2)] ∧ oL.IsDictOf (PySem.strKind PySem.Challenge.rw_pf0005_01.row.prog w) kvsL ∧ K3 kvsL ∧ kvsL.length ≤ i ∧ k = i) ?_ ?_ ⟨o_1, [], 0, tk1, rfl, hs_1, K3.nil, Nat.le_refl _, rfl⟩
    · intro i c nw hi hJ u t it h tk F0 N0
      obtain ⟨oL, kvsL, k, t1, rfl, hLd, hLo, hLl, hkk⟩ := hJ
      have hi5 : i < 5 := by
        have := (List.getElem?_eq_some_iff.mp hi).1
        simpa using this
      dsimp only
      (rename_i lt1_rt1; revert w s₀ s₁ mg mb fa o pm doc a1 a2 a3 a4 ns a6 a7 sA wv a9 h1 tk1 o4 o3 o2 o1 D_1 ws_1 h_1 l_1 h_2 d_1 h_3 o_1 D_2 h_4 h_5 h_6 o_2 h_7 o_3 lt1_rt1 i_1 ns' o4' o3' i c u t it h tk oL kvsL k t1; exact (no_implicit_lambda% H1_9.out))
    · intro nw hJ u h tk F0 N0
      obtain ⟨oL, kvsL, k, t1, rfl, hLd, hLo, hLl, hkk⟩ := hJ
      have hkk : k = 5 := hkk
      have hLl : kvsL.length ≤ 5 := hLl
      dsimp only
      (rename_i lf1_rt1 _ _; revert w s₀ s₁ mg mb fa o pm doc a1 a2 a3 a4 ns a6 a7 sA wv a9 h1 tk1 o4 o3 o2 o1 D_1 ws_1 h_1 l_1 h_2 d_1 h_3 o_1 D_2 h_4 h_5 h_6 o_2 h_7 o_3 lf1_rt1 i_1 ns' o4' o3' u h tk oL kvsL k t1; exact (no_implicit_lambda% H2_9.out)))


theorem lt1_h : law_pk.P1 := by
  intro w; unhygienic intros
  walk_at "my go"
  iterate 3
    · refine' ⟨_, _, _, [(d_1, _), (l_1, _), (D_1, _), (_, o4'), (_, o3'), (_, o_3), (_, o_2)], rfl, ?F, ?N, ?off, ?fr, ⟨_, _, _, _, rfl, ?d, ?n, ?l, ?k⟩⟩
      case F => assumption
      case N => exact news_sub (by assumption) (by walk_at "my sub")
      case off => k_all
      case fr => (intro y h1 h2 h3; simp only [h1, h2, if_false] <;> rfl)
      case d => assumption
      case n => exact hLo.stored (by first | exact .inl rfl | exact .inr (.inl rfl) | exact .inr (.inr rfl))
      case l => exact Nat.le_trans (stored_length_le _ _ _) (by omega)
      case k => omega
  · refine' ⟨_, _, _, [(d_1, _), (l_1, _), (D_1, _), (_, o4'), (_, o3'), (_, o_3), (_, o_2)], rfl, ?F, ?N, ?off, ?fr, ⟨_, _, _, _, rfl, ?d, ?n, ?l, ?k⟩⟩
    case F => assumption
    case N => exact news_sub (by assumption) (by walk_at "my sub")
    case off => k_all
    case fr => (intro y h1 h2 h3; simp only [h1, h2, if_false] <;> rfl)
    case d => assumption
    case n => exact hLo
    case l => omega
    case k => omega

theorem rows_16 : True := by
  k_with_none
  k_with "my enter" => ((refine wpAny_call ?_; k_dflt (refine' code_defG ?k1 ?k2 ?k3 ?k4 ?k5 ?kA ?kF ?kK ?k6 ?k7 ?k8 ?k9 ?kB ?_ ?c2 ?c3 ?c4 ?c5; (case kA => exact rfl); (case kF => exact rfl); (case kK => assumption); (case k1 => k_asm); (case k2 => k_asm); (case k3 => k_asm); (case k4 => k_asm); (case k5 => k_asm); (case k6 => k_is); (case k7 => k_is); (case k8 => ktr_room); (case k9 => exact BindsTo.of_eq rfl); (case c5 => decide); (case kB => exact locs rfl); (case c2 => exact rfl); (case c3 => exact rfl); (case c4 => exact rfl); k_whole; intro g' L' h' FG' F' N' B' X' T' kG'; (try dsimp only); (try k_lift B'); (try k_fold))))
  k_with "my enterC" => ((refine wpAny_call ?_; k_dflt (refine' code_defC ?k1 ?k2 ?k3 ?k4 ?k5 ?kA ?kF ?kK ?k6 ?k7 ?k8 ?k9 ?kB ?kD ?_ ?c2 ?c3 ?c4; (case kA => exact rfl); (case kF => exact rfl); (case kK => assumption); (case k1 => k_asm); (case k2 => k_asm); (case k3 => k_asm); (case k4 => k_asm); (case k5 => k_asm); (case k6 => k_is); (case k7 => k_is); (case k8 => ktr_room); (case k9 => exact BindsTo.of_eq rfl); (case kB => exact rfl); (case kD => decide +kernel); (case c2 => exact rfl); (case c3 => exact rfl); (case c4 => exact rfl); k_whole; intro g' L' h' tk' cells' FG' F' N' Y' B' X' T' l1; (try k_lt l1); (obtain ⟨oc, hE', d1⟩ := CellsAre.one Y'; subst hE'; clear Y'); (try simp only [List.cons_append, List.nil_append] at N'); (try dsimp only); (try k_lift B'); (try k_fold))))
  k_with "ite" => (first | with_reducible refine ite_tt ?_ | with_reducible refine ite_ff ?_)
  k_with "call ref" => ((k_here; k_dflt (refine' kind_K ?k1 ?k2 ?k3 ?k4 ?k5 ?k6 ?k7 ?k8 ?k9 ?ka ?kb ?kc ?kd ?ke ?_; (case k1 => k_asm); (case k2 => k_asm); (case k3 => k_asm); (case k4 => k_asm); (case k5 => k_asm); (case k6 => first | exact rfl | assumption); (case k7 => k_mem); (case k8 => k_asm); (case k9 => k_asm); (case ka => ktr_room); (case kb => ktr_units); (case kc => first | assumption | omega); (case kd => first | assumption | omega); (case ke => first | assumption | exact allStr_nil); k_whole; intro t' h' tk' F' N' cE')))
  k_with "call ref" => ((k_here; k_dflt (refine' isarr_K ?k1 ?k2 ?k3 ?k4 ?k5 ?k6 ?ka ?kb ?kc ?kd ?_; (case k1 => k_asm); (case k2 => k_asm); (case k3 => k_asm); (case k4 => k_asm); (case k5 => k_asm); (case k6 => first | exact rfl | assumption); (case ka => ktr_room); (case kb => ktr_units); (case kc => first | assumption | omega); (case kd => first | assumption | omega); k_whole; intro h' tk' F' N')))
  k_with "call ref" => ((k_here; k_dflt (refine' means_K ?k1 ?k2 ?k3 ?k4 ?k5 ?k6 ?k7 ?k71 ?k72 ?k73 ?k8 ?k9 ?ka ?kb ?kc ?kd ?ke ?_; (case k1 => k_asm); (case k2 => k_asm); (case k3 => k_asm); (case k4 => k_asm); (case k5 => k_asm); (case k6 => first | exact rfl | assumption); (case k71 => k_mem); (case k72 => k_mem); (case k73 => first | assumption | k_get); (case k7 => k_mem); (case k8 => k_asm); (case k9 => k_asm); (case ka => ktr_room); (case kb => ktr_units); (case kc => first | assumption | omega | exact (hkl _ (by assumption)).1); (case kd => first | assumption | omega | exact (hkl _ (by assumption)).2); (case ke => first | assumption | exact allStr_nil); k_whole; intro h' tk' F' N')))
  k_with "getAttr ref" => ((k_here; k_dflt (refine' get_own ?F ?X ?I ?g ?h ?a ?n ?l ?v ?_; (case F => k_asm); (case X => k_asm); (case I => k_inst); (case g => k_is); (case h => k_is); (case a => k_is); (case n => k_is); (case l => assumption); (case v => k_handed); k_whole)))
  k_with "exec Assign cons ListComp" => ((k_here; k_dflt (refine LCt.Assign_ListComp_T (F₀ := by k_asm) (by rfl) (by with_unfolding_all rfl) (by with_unfolding_all rfl) (by decide) (by rfl) (by decide) (by rfl) (by rfl) (by rfl) ?_)))
  k_with "eval ListComp" => ((k_here; k_dflt (refine LCt.ListComp_T (F₀ := by k_asm) (by with_unfolding_all rfl) (by decide) (by rfl) (by decide) (by rfl) ?_)))
  k_with "compareOp In str ref" => ((k_here; k_dflt (refine kda_in (knd := PySem.strKind _ _) (by k_asm) (by k_mem) (by k_asm) (by k_asm) (strKind_is _ _ _ _) ((valueAt _ _).isSome) (by rfl) ?_)))
  k_with "subscriptTail" => ((k_here; (with_reducible show wpAny _ _ (subscriptTail _ _ (Value.ref _) (Value.str _ _)) _ _ _); (obtain ⟨v9, hv9⟩ := Option.isSome_iff_exists.mp (by assumption : (valueAt _ _).isSome = true)); k_dflt (refine kda_item (knd := PySem.strKind _ _) (by k_asm) (by k_mem) (by k_asm) (strKind_is _ _ _ _) hv9 ?_)))
  k_with "call type:dict" => ((k_here; (with_reducible show wpAny _ _ (call (Value.type "dict") [Value.ref _]) _ _ _); k_dflt (refine' dict_pairs_K ?kh ?k1 ?k2 ?k3 ?k4 ?k5 ?k6 ?_; (case kh => exact rfl); (case k1 => k_asm); (case k2 => k_asm); (case k3 => exact modules_low (Top.nolimit (by k_asm))); (case k4 => k_mem); (case k5 => assumption); (case k6 => omega); k_whole; intro d' o' h' tk' F' N' l1 lo' hd')))
  k_with "call type:list" => ((k_here; (with_reducible show wpAny _ _ (call (Value.type "list") [Value.ref _]) _ _ _); k_dflt (refine' list_items_K ?kh ?k1 ?k2 ?k3 ?k4 ?k5 ?k6 ?_; (case kh => exact rfl); (case k1 => k_asm); (case k2 => k_asm); (case k3 => k_mem); (case k4 => k_mem); (case k5 => k_asm); (case k6 => omega); k_whole; intro lS its9 c9 extra9 h' tk' F' N' hP9)))
  k_with "call type:dict" => ((k_here; (with_reducible show wpAny _ _ (call (Value.type "dict") [Value.ref _]) _ _ _); k_dflt (refine' dict_pairs_drop ?kh ?k1 ?k2 ?k3 ?k4 ?k5 ?k6 ?_; (case kh => exact rfl); (case k1 => k_asm); (case k2 => k_asm); (case k3 => exact modules_low (Top.nolimit (by k_asm))); (case k4 => exact rfl); (case k5 => assumption); (case k6 => omega); k_whole; intro dK oK h' tk' F' N' lK loK hdK; (try simp only [AllLt, and_true] at lK))))
  k_with "call ref" => ((k_here; k_dflt (refine' take_F ?k1 ?k2 ?k3 ?k4 ?k5 ?k6 ?k7 ?k8 ?k9 ?ka ?kb ?kc ?kd ?ke ?kf ?kg ?kh ?_; (case k1 => k_asm); (case k2 => k_asm); (case k3 => k_asm); (case k4 => k_asm); (case k5 => k_asm); (case k6 => first | exact rfl | assumption); (case k7 => k_updF); (case k8 => k_mem); (case k9 => assumption); (case ka => omega); (case kb => omega); (case kc => decide); (case kd => decide); (case ke => omega); (case kf => ktr_room); (case kg => ktr_units); (case kh => assumption); k_whole; intro rr tr tp h' tk' hr0 hr1 F' N'; (try dsimp only at N'))))
  k_with "call ref" => ((k_here; k_dflt (refine' own_K ?k1 ?k2 ?k3 ?k4 ?k5 ?k6 ?k7 ?k8 ?k9 ?ka ?kb ?kc ?kd ?ke ?_; (case k1 => k_asm); (case k2 => k_asm); (case k3 => k_asm); (case k4 => k_asm); (case k5 => k_asm); (case k6 => first | exact rfl | assumption); (case k7 => k_mem); (case k8 => k_asm); (case k9 => k_asm); (case ka => ktr_room); (case kb => ktr_units); (case kc => first | assumption | omega | decide); (case kd => first | assumption | omega | decide); (case ke => first | assumption | exact allStr_nil); k_whole; intro qo to h' tk' F' N' l1; (try simp only [AllLt, and_true] at l1))))
  k_with "cj" => (with_reducible (first | assumption | exact And.right (by first | assumption | exact And.right (by first | assumption | exact And.right (by first | assumption | exact And.right (by first | assumption | exact And.right (by first | assumption | exact And.right (by first | assumption | exact And.right (by first | assumption | exact And.right (by first | assumption | exact And.right (by first | assumption | exact And.right (by first | assumption | exact And.right (by first | assumption | exact And.right (by first | assumption | exact And.right (by first | assumption | exact And.right (by first | assumption | exact And.right (by first | assumption | exact And.right (by first | assumption | exact And.right (by first | assumption | exact And.right (by first | assumption | exact And.right (by first | assumption | exact And.right (by first | assumption | exact And.right (by first | assumption | exact And.right (by first | assumption | exact And.right (by first | assumption | exact And.right (by first | assumption | exact And.right (by first | assumption | exact And.right (by assumption))))))))))))))))))))))))))))
  k_with "ne" => (first | exact Nat.ne_of_gt (And.left (by k_extra "cj")) | exact Nat.ne_of_lt (And.left (by k_extra "cj")) | exact Nat.ne_of_gt (by with_reducible assumption) | exact Nat.ne_of_lt (by with_reducible assumption) | exact Nat.ne_of_gt (by k_extra "cj") | exact Nat.ne_of_lt (by k_extra "cj") | (refine neN ?_; (try dsimp only); omega))
  k_with "all" => (first | exact List.forall_mem_nil _ | (refine' List.forall_mem_cons.mpr ⟨?a, ?b⟩; (case a => first | exact Nat.ne_of_lt (And.left (by k_extra "cj")) | k_ne); (case b => k_all)) | assumption | exact allLt_ne (by k_extra "cj") | exact gt_ne (by assumption) (by first | assumption | omega) | fail "k_all")
  k_with "call ref" => ((k_here; k_dflt (refine' own3_K ?k1 ?k2 ?k3 ?k4 ?k5 ?k6 ?k7 ?k8 ?k9 ?ka ?kb ?kc ?kd ?ke ?_ ?_ ?_; (case k1 => k_asm); (case k2 => k_asm); (case k3 => k_asm); (case k4 => k_asm); (case k5 => k_asm); (case k6 => first | exact rfl | assumption); (case k7 => k_mem); (case k8 => k_asm); (case k9 => k_asm); (case ka => ktr_room); (case kb => ktr_units); (case kc => first | assumption | omega | decide); (case kd => first | assumption | omega | decide); (case ke => first | assumption | exact K3.nil); k_whole; all_goals (intro qo to h' tk' eO9 F' N' l1; (try simp only [AllLt, and_true] at l1)))))
  k_with "eval Dict" => ((k_here; k_dflt (first
        | (refine' kdn_str ?q ?F ?N ?b ?a ?l ?e ?n ?_; (case q => rfl); (case F => k_asm); (case N => first | k_asm | exact News.nil); (case b => exact Top.nolimit (by k_asm)); (case a => rfl); (case l => rfl); (case e => exact List.cons_ne_nil _ _); (case n => exact Nat.le_of_ble_eq_true rfl))
        | (refine' kdn_int ?q ?F ?N ?b ?a ?l ?e ?n ?_; (case q => rfl); (case F => k_asm); (case N => first | k_asm | exact News.nil); (case b => exact Top.nolimit (by k_asm)); (case a => rfl); (case l => rfl); (case e => exact List.cons_ne_nil _ _); (case n => exact Nat.le_of_ble_eq_true rfl))); intro d' h' o' F' N' l1 lo' hd'; (try k_lt l1)))
  k_with "setItem ref str" => ((k_here; k_dflt (refine' kda_set (knd := PySem.strKind _ _) ?F ?N ?U ?d (strKind_is _ _ _ _) ?z ?_; (case F => k_asm); (case N => k_asm); (case U => k_updF); (case d => assumption); (case z => rw [sizeLine_eq]; omega)); intro h' o' F' N' hdS'; (try dsimp only at N')))
  k_with "my sub" => (((repeat (refine List.forall_mem_cons.mpr ⟨by k_mem, ?_⟩)); first | exact List.forall_mem_nil _ | (intro p hp; repeat (first | exact hp | refine List.Mem.tail _ ?_))))
  k_with "execs cons" => (first | (k_here; k_gentoks) | ((with_reducible refine wpAny_execs_cons ?_); try dsimp only))
  k_with "assignInOrder" => ((dsimp only; walk_at "assignInOrder"))
  k_with "enter" => (first
        | (refine' code_def ?k1 ?k2 ?k3 ?k4 ?k5 ?kA ?kF ?kK ?k6 ?k7 ?k8 ?k9 ?kB ?_ ?c2 ?c3 ?c4 ?c5; (case kA => exact rfl); (case kF => exact rfl); (case kK => first | exact rfl | assumption); (case k1 => k_asm); (case k2 => k_asm); (case k3 => k_asm); (case k4 => k_asm); (case k5 => k_asm); (case k6 => k_is); (case k7 => k_is); (case k8 => ktr_room); (case k9 => first | exact BindsTo.of_eq rfl | exact binds_K (by k_in) rfl (by k_is) rfl rfl rfl | fail "k_enter: no rule for these arguments"); (case c5 => decide); (case kB => exact locs rfl); (case c2 => exact rfl); (case c3 => exact rfl); (case c4 => exact rfl); k_whole; intro g' L' h' FG' F' N' B' X' T'; (try dsimp only); (try k_lift B'); (try k_fold)))
  k_with "call ref" => ((k_here; (with_reducible show wpAny _ _ (call (Value.ref 160) _) _ _ _); k_dflt (refine' world_K (N := news_sub (by assumption) ?kN) ?k1 ?k2 ?k3 ?k5 ?k6 ?k7 ?k8 ?k9 ?ka ?kb ?kc ?kd ?ke ?kf ?kg ?kh ?ki ?_; (case k1 => k_asm); (case k2 => k_asm); (case k3 => k_asm); (case kN => walk_at "my sub"); (case k5 => k_asm); (case k6 => first | exact rfl | assumption); (case k7 => assumption); (case k8 => omega); (case k9 => omega); (case ka => omega); (case kb => omega); (case kc => omega); (case kd => assumption); (case ke => assumption); (case kf => assumption); (case kg => omega); (case kh => ktr_room); (case ki => ktr_units); k_whole; intro xA dx nA aA kA fA ouA inA fiA opA feA daA trA coA oN oA oK kvsN kvsA kW es w1 w2 w3 w4 w5 w6 w7 w8 w9 tp rest h' tk' FW NW kpW hkW loW hrW lN lA' lK hNd hNo hNl hAd hAo hAl hKd hSt hA hEl)))
  k_with "call type:list" => ((k_here; (with_reducible show wpAny _ _ (call (Value.type "list") [Value.ref _]) _ _ _); k_dflt (refine' list_keys_K ?kh ?k1 ?k2 ?k3 ?k4 ?k5 ?k6 ?_; (case kh => exact rfl); (case k1 => k_asm); (case k2 => k_asm); (case k3 => k_mem); (case k4 => assumption); (case k5 => k_asm); (case k6 => omega); k_whole; intro lN2 cN2 vsN h' tk' hvN F' N' lNN; (try simp only [AllLt, and_true] at lNN))))
  k_with "binaryOp Add ref ref" => ((k_here; (with_reducible show wpAny _ _ (binaryOp _ (Value.ref _) (Value.ref _)) _ _ _); k_dflt (refine' add_lists_K ?F ?N ?a ?b ?z ?_; (case F => k_asm); (case N => k_asm); (case a => k_mem); (case b => k_mem); (case z => walk_at "my len")); intro D' h' F' N' l1; (try simp only [AllLt, and_true] at l1)))
  k_with "my len" => (((have hLn9 := strsAre_len hvN); (simp only [List.length_append, List.length_map, List.length_cons, List.length_nil] at *); omega))
  k_with "exec Assign cons ListComp" => ((k_here; (with_reducible show wpAny _ _ (exec (.Assign _ (.ListComp _ [⟨_, .Attribute _ _ _, _, _⟩] _ _) _) _) _ _ _); k_dflt (refine Assign_ListComp_TD (knd := PySem.strKind _ _) (by k_asm) (by rfl) (by with_unfolding_all rfl) (by with_unfolding_all rfl) (by decide) (by rfl) (by decide) (by rfl) (by rfl) (by rfl) ?_)))
  k_with "compareOp In str ref" => ((k_here; k_dflt (refine in_words_K (by k_asm) (by k_mem) hWd ?_)))
  k_with "getItem ref str" => ((k_here; k_dflt (refine kdt_getItem (knd := PySem.strKind _ _) (by k_asm) (by k_mem) (by k_asm) (strKind_is _ _ _ _) (by assumption) ?_)))
  k_with "my go" => (repeat' ((fail_if_success with_reducible refine strRest_at ?_); (fail_if_success with_reducible refine itemsRest_at ?_); first | (k_unfold; (try dsimp only)) | walk1 | (dsimp only; walk1) | fail "no step"))
  trivial

noncomputable def lf1_pk : Pk1 law_pk.P2 := by
  apply Pk1.mk
  intro H1_9
  intro w; unhygienic intros
  generalize hm0 : bindL _ _ _ = m0 at F0
  walk_at "my go"
  have hcells : News s₁.heap s₁.heap.objs.size h' [(s₁.heap.objs.size + 1 + 1 + 1 + 1, o4'), (s₁.heap.objs.size + 1 + 1 + 1, o3'), (s₁.heap.objs.size + 1 + 1, o_3), (s₁.heap.objs.size + 1, o_2)] :=
    kpW.news (news_sub N0 (by walk_at "my sub")) (by
      intro p hp
      simp only [List.mem_cons, List.not_mem_nil, or_false] at hp ⊢
      rcases hp with rfl | rfl | rfl | rfl <;> exact Nat.ne_of_lt (by omega))
  have N1 : News s₁.heap s₁.heap.objs.size h' ((kA, oK) :: (aA, oA) :: (nA, oN) :: (xA, instObj 114 dx) :: (dx, dictOf es 28) :: (d_1, oL) :: (l_1, W.listOf #[.int kW tp, .ref D_1] 0) :: (D_1, W.listOf ws_1.toArray 0) :: (s₁.heap.objs.size + 1 + 1 + 1 + 1, o4') :: (s₁.heap.objs.size + 1 + 1 + 1, o3') :: (s₁.heap.objs.size + 1 + 1, o_3) :: (s₁.heap.objs.size + 1, o_2) :: rest) := by
    refine news_mix NW hcells ?_
    repeat (refine List.forall_mem_cons.mpr ⟨by first | exact .inl (by k_mem) | exact .inr (by k_mem), ?_⟩)
    intro p hp; exact .inl (by repeat (first | exact hp | refine List.Mem.tail _ ?_))
  clear NW hcells N0
  subst hw4 hw3
  (revert w s₀ s₁ mg mb fa o pm doc a1 a2 a3 a4 ns a6 a7 sA wv a9 h1 tk1 o4 o3 o2 o1 D_1 ws_1 h_1 l_1 h_2 d_1 h_3 o_1 D_2 h_4 h_5 h_6 o_2 h_7 o_3 lf1_rt1 i_1 ns' u h tk oL kvsL k t1 m0 xA dx nA aA kA fA ouA inA fiA opA feA daA trA coA oN oA oK kvsN kvsA kW es w1 w2 w3 w4 w5 w6 w7 w8 w9 tp rest h' tk'; exact (no_implicit_lambda% H1_9.out))


noncomputable def lf2_pk : Pk2 lf1_pk.P1 := by
  apply Pk2.mk
  intro H1_9 H2_9
  intro w; unhygienic intros
  have hkW' : kW = 17 := by omega
  clear hkk hLl hm0 F0 hkW hkk_1 kpW
  have ga1 := hA (Str.ofString "names") (.ref nA) (by with_unfolding_all rfl)
  have ga2 := hA (Str.ofString "arrays") (.ref aA) (by with_unfolding_all rfl)
  have ga3 := hA (Str.ofString "kinds") (.ref kA) (by with_unfolding_all rfl)
  walk_at "my go"
  rename_i tkz1 hz1 tqz1 hz2 oz1 dz1 tkz2 hz3 lz1 hz4 l1z1 Dz1 hz5 l1z2 hz6 lz2 hz7 FFz1 NNz1 l1z3
  have hNm := strsAre_app hvN (.cons (Str.ofString "Z") tk' (.cons (Str.ofString "Z$") (tk' + 1) (.cons (Str.ofString "Z%") (tk' + 1 + 1) .nil)))
  have hAll := strsAre_app hNm (.cons (Str.ofString "A()") tk (.cons (Str.ofString "I()") (tk + 1) (.cons (Str.ofString "I%()") (tk + 1 + 1) (.cons (Str.ofString "S()") (tk + 1 + 1 + 1) (.cons (Str.ofString "Z()") (tk + 1 + 1 + 1 + 1) .nil)))))
  have hAl2 := strsAre_len hAll
  have N2 := news_sub (small := (D', W.listOf _ 0) :: (Dz1, W.listOf _ 0) :: (kA, oK) :: (aA, oA) :: (nA, oN) :: (xA, instObj 114 dx) :: (dx, dictOf es 28) :: (d_1, oL) :: (l_1, W.listOf #[Value.int kW tp, Value.ref D_1] 0) :: (D_1, W.listOf ws_1.toArray 0) :: (s₁.heap.objs.size + 1 + 1 + 1 + 1, o4) :: (s₁.heap.objs.size + 1 + 1 + 1, oz1) :: (s₁.heap.objs.size + 1 + 1, o_3) :: (s₁.heap.objs.size + 1, o_2) :: rest) N' (by walk_at "my sub")
  generalize hnmV : vsN ++ [_, _, _] = nmV at hNm hAll N2 hAl2
  generalize halV : nmV ++ [_, _, _, _, _] = alV at hAll N2 hAl2
  simp only [List.length_append, List.length_map, List.length_cons, List.length_nil] at hAl2
  clear N' hnmV halV FFz1 NNz1 hvN
  have lw : @LT.lt Nat _ kA Dz1 ∧ @LT.lt Nat _ Dz1 D' ∧ AllLt Dz1 rest ∧ AllLt D' rest := ⟨by omega, by omega, And.right (And.right (And.right (And.right (And.right (And.right (And.right (And.right (And.right (And.right (And.right (And.right (And.right (And.right l1z2))))))))))))), And.right (And.right (And.right (And.right (And.right (And.right (And.right (And.right (And.right (And.right (And.right (And.right (And.right (And.right (And.right (And.right l1)))))))))))))))⟩
  clear l1 l1z1 l1z2 l1z3 lNN
  refine LCt.CompSrcT.ledger (by rfl) (by k_asm) N2 (List.Mem.head _) (by rw [List.size_toArray, sizeLine_eq]; omega) ?_
  intro g0
  refine compT_inv (J := fun i ys nw => ∃ (k : Int) (t1 : Tok) (ws' : List Str), nw = (D', W.listOf alV.toArray 0) :: (Dz1, W.listOf nmV.toArray 0) :: (kA, oK) :: (aA, oA) :: (nA, oN) :: (xA, instObj 114 dx) :: (dx, dictOf es 28) :: (d_1, oL) :: (l_1, W.listOf #[Value.int k t1, Value.ref D_1] 0) :: (D_1, W.listOf ws_1.toArray 0) :: (s₁.heap.objs.size + 1 + 1 + 1 + 1, o4) :: (s₁.heap.objs.size + 1 + 1 + 1, oz1) :: (s₁.heap.objs.size + 1 + 1, o_3) :: (s₁.heap.objs.size + 1, o_2) :: rest ∧ StrsAre ys ws' ∧ (∀ x ∈ ws', x ∈ kvsN.map (·.1) ++ zs3 ++ as5) ∧ ws'.length ≤ i ∧ k = kW + i) ?_ ?_ _ _ _ _ (Nat.zero_add _) ⟨kW, tp, [], rfl, .nil, by simp, Nat.le_refl _, by simp⟩
  · intro i ys nw v I oI C oC D m₂ h tk E' hi hJ hP hC hx F' N' off ne
    obtain ⟨kT, tT, wsT, rfl, hysT, hmemT, hlenT, hkkT⟩ := hJ
    obtain ⟨x, t, rfl, hxi⟩ := strsAre_at hAll (by simpa using hP)
    have hxm := List.mem_of_getElem? hxi
    have hi16 : i < 16 := by simp only [List.size_toArray] at hi; omega
    (rename_i lt2_rt1 lt2_rt2 _; revert w s₀ s₁ mg mb fa o pm doc a1 a2 a3 a4 ns a6 a7 sA wv a9 h1 tk1 o4 o3 o2 o1 D_1 ws_1 h_1 l_1 h_2 d_1 h_3 o_1 D_2 h_4 h_5 h_6 o_2 h_7 o_3 lf1_rt1 i_1 ns' u lt2_rt1 tkz1 oL kvsL k t1 m0 xA dx nA aA kA fA ouA inA fiA opA feA daA trA coA oN oA oK kvsN kvsA kW es w1 w2 w3 w4 w5 w6 w7 w8 w9 tp rest hz1 tqz1 hz2 oz1 tkz2 lN2 cN2 vsN hz3 tk' lz1 hz4 Dz1 hz5 hz6 lt2_rt2 lz2 hz7 D' h' nmV alV g0 i ys I oI C oC D m₂ h tk E' kT tT wsT x t; exact (no_implicit_lambda% H1_9.out))
  · intro ysC nw hJ Dw hC tkC FC NC offC
    obtain ⟨kC, tC, wsC, rfl, hysC, hmemC, hlenC, hkkC⟩ := hJ
    simp only [List.size_toArray] at hlenC hkkC
    (revert w s₀ s₁ mg mb fa o pm doc a1 a2 a3 a4 ns a6 a7 sA wv a9 h1 tk1 o4 o3 o2 o1 D_1 ws_1 h_1 l_1 h_2 d_1 h_3 o_1 D_2 h_4 h_5 h_6 o_2 h_7 o_3 lf1_rt1 i_1 ns' u h tkz1 oL kvsL k t1 m0 xA dx nA aA kA fA ouA inA fiA opA feA daA trA coA oN oA oK kvsN kvsA kW es w1 w2 w3 w4 w5 w6 w7 w8 w9 tp rest hz1 tqz1 hz2 oz1 tkz2 lN2 cN2 vsN hz3 tk' lz1 hz4 Dz1 hz5 hz6 tk lz2 hz7 D' h' nmV alV g0 ysC Dw hC tkC kC tC wsC; exact (no_implicit_lambda% H2_9.out))


theorem lt2_h : lf2_pk.P1 := by
  intro w; unhygienic intros
  have of1 : (@Ne Nat l_1 I) ∧ (@Ne Nat l_1 C) ∧ (@Ne Nat l_1 D) := LCg.Off3.mem off (l_1, _) (by k_mem)
  walk_at "my go"
  · refine ⟨_, _, _, rfl, by assumption, by assumption, ?_, .inr ⟨_, List.Mem.head _, rfl, _, rfl⟩, ⟨_, _, wsT ++ [x], rfl, strsAre_snoc hysT, ?_, ?_, ?_⟩⟩
    · exact off
    · intro z hz
      rcases List.mem_append.mp hz with hz | hz
      · exact hmemT z hz
      · rw [List.mem_singleton.mp hz]; exact hxm
    · rw [List.length_append, List.length_singleton]; omega
    · omega
  · refine ⟨_, _, _, rfl, by assumption, by assumption, ?_, .inr ⟨_, List.Mem.head _, rfl, _, rfl⟩, ⟨_, _, wsT, rfl, hysT, hmemT, ?_, ?_⟩⟩
    · exact off
    · omega
    · omega


noncomputable def lf3_pk : Pk2 lf2_pk.P2 := by
  apply Pk2.mk
  intro H1_9 H2_9
  intro w; unhygienic intros
  have hWd := hysC
  have hwn : wsC.length ≤ 16 := by omega
  have hk33 : 17 ≤ kC ∧ kC ≤ 33 := by omega
  have N3 := news_sub (small := (Dw, LCg.lst ysC) :: (Dz1, W.listOf nmV.toArray 0) :: (kA, oK) :: (aA, oA) :: (nA, oN) :: (xA, instObj 114 dx) :: (dx, dictOf es 28) :: (d_1, oL) :: (l_1, W.listOf #[Value.int kC tC, Value.ref D_1] 0) :: (D_1, W.listOf ws_1.toArray 0) :: (s₁.heap.objs.size + 1 + 1 + 1 + 1, o4) :: (s₁.heap.objs.size + 1 + 1 + 1, oz1) :: (s₁.heap.objs.size + 1 + 1, o_3) :: (s₁.heap.objs.size + 1, o_2) :: rest) NC (by walk_at "my sub")
  have oCx : @Ne Nat dx Dw := off1_mem offC (dx, dictOf es 28) (by k_mem)
  simp only [LCg.Off1] at offC
  dsimp only
  clear NC N2 hAll hAl2 F' c3 lz2
  walk_at "my go"
  rename_i hz8 oz4 FF9 NN9 dz4
  clear hlenC hkkC c4
  have hLs := hLo.allStr
  have hNd2 := nodup_of hNd
  refine SrcDT.ledger (by rfl) (by k_asm) NN9 (by k_mem) hNd lN (by rw [sizeLine_eq]; omega) ?_
  intro g1
  refine compT_inv (J := fun i ys nw => ∃ ex : List (Addr × Obj), nw = ex ++ ((Dw, LCg.lst ysC) :: (Dz1, W.listOf nmV.toArray 0) :: (kA, oK) :: (aA, oA) :: (nA, oN) :: (xA, instObj 114 dx) :: (dx, dictOf es 28) :: (d_1, oL) :: (l_1, W.listOf #[Value.int kC tC, Value.ref D_1] 0) :: (D_1, W.listOf ws_1.toArray 0) :: (s₁.heap.objs.size + 1 + 1 + 1 + 1, oz4) :: (s₁.heap.objs.size + 1 + 1 + 1, oz1) :: (s₁.heap.objs.size + 1 + 1, o_3) :: (s₁.heap.objs.size + 1, o_2) :: rest) ∧
    Over ex ((Dw, LCg.lst ysC) :: (Dz1, W.listOf nmV.toArray 0) :: (kA, oK) :: (aA, oA) :: (nA, oN) :: (xA, instObj 114 dx) :: (dx, dictOf es 28) :: (d_1, oL) :: (l_1, W.listOf #[Value.int kC tC, Value.ref D_1] 0) :: (D_1, W.listOf ws_1.toArray 0) :: (s₁.heap.objs.size + 1 + 1 + 1 + 1, oz4) :: (s₁.heap.objs.size + 1 + 1 + 1, oz1) :: (s₁.heap.objs.size + 1 + 1, o_3) :: (s₁.heap.objs.size + 1, o_2) :: rest) ∧ PairsIn ex ys (dueP kvsL wsC (kvsN.take i))) ?_ ?_ _ _ _ _ (Nat.zero_add _) ⟨[], rfl, Over.nil, pairsIn_nil⟩
  · intro i ys nw v I oI C oC D m₂ h tk E' hi hJ hP hC hx F' N' off ne
    obtain ⟨exT, rfl, hov, hps⟩ := hJ
    obtain ⟨x, xv, hxi, hxk⟩ := hP
    obtain ⟨tx, rfl⟩ := Value.isStrOf_shape hxk
    have hvx := valueAt_get hNd2 hxi
    have hvi : (valueAt kvsN x).isSome = true := by rw [hvx]; rfl
    have hx1 := (names8_len x (hNo x xv hvx).1).1
    have hx2 := (names8_len x (hNo x xv hvx).1).2
    generalize hBB : (_ :: _ :: _ :: _ :: _ :: _ :: _ :: _ :: _ :: _ :: _ :: _ :: _ :: _ :: rest : List (Addr × Obj)) = base at N' off hov ⊢
    have q1 : (Dw, LCg.lst ysC) ∈ exT ++ base := List.mem_append.mpr (.inr (by rw [← hBB]; k_mem))
    have q2 : (nA, oN) ∈ exT ++ base := List.mem_append.mpr (.inr (by rw [← hBB]; k_mem))
    have q3 : (xA, instObj 114 dx) ∈ exT ++ base := List.mem_append.mpr (.inr (by rw [← hBB]; k_mem))
    have q4 : (dx, dictOf es 28) ∈ exT ++ base := List.mem_append.mpr (.inr (by rw [← hBB]; k_mem))
    have q5 : (d_1, oL) ∈ exT ++ base := List.mem_append.mpr (.inr (by rw [← hBB]; k_mem))
    have q6 : (s₁.heap.objs.size + 1 + 1 + 1 + 1, oz4) ∈ exT ++ base := List.mem_append.mpr (.inr (by rw [← hBB]; k_mem))
    have q7 : (s₁.heap.objs.size + 1 + 1 + 1, oz1) ∈ exT ++ base := List.mem_append.mpr (.inr (by rw [← hBB]; k_mem))
    have q8 : (s₁.heap.objs.size + 1 + 1, o_3) ∈ exT ++ base := List.mem_append.mpr (.inr (by rw [← hBB]; k_mem))
    clear hBB
    (rename_i lt3_rt1 lt3_rt2 lt3_rt3 lt3_rt4; revert w s₀ s₁ mg mb fa o pm doc a1 a2 a3 a4 ns a6 a7 sA wv a9 h1 tk1 o4 o3 o2 o1 D_1 ws_1 h_1 l_1 h_2 d_1 h_3 o_1 D_2 h_4 h_5 h_6 o_2 h_7 o_3 lf1_rt1 i_1 ns' u lt3_rt1 tkz1 oL kvsL k t1 m0 xA dx nA aA kA fA ouA inA fiA opA feA daA trA coA oN oA oK kvsN kvsA kW es w1 w2 w3 w4 w5 w6 w7 w8 w9 tp rest hz1 tqz1 hz2 oz1 tkz2 lN2 cN2 vsN hz3 tk' lz1 hz4 Dz1 hz5 hz6 lt3_rt2 lz2_1 hz7 D' h' nmV alV g0 ysC Dw lt3_rt3 tkC kC tC wsC hz8 oz4 lt3_rt4 g1 i ys I oI C oC D m₂ h tk E' exT x xv tx base; exact (no_implicit_lambda% H1_9.out))
  · intro ysD nw hJ Dd hD2 tkD FD ND offD
    obtain ⟨exD, rfl, hovD, hpsD⟩ := hJ
    rw [List.take_length] at hpsD
    (rename_i lf4_rt1; revert w s₀ s₁ mg mb fa o pm doc a1 a2 a3 a4 ns a6 a7 sA wv a9 h1 tk1 o4 o3 o2 o1 D_1 ws_1 h_1 l_1 h_2 d_1 h_3 o_1 D_2 h_4 h_5 h_6 o_2 h_7 o_3 lf1_rt1 i_1 ns' u h tkz1 oL kvsL k t1 m0 xA dx nA aA kA fA ouA inA fiA opA feA daA trA coA oN oA oK kvsN kvsA kW es w1 w2 w3 w4 w5 w6 w7 w8 w9 tp rest hz1 tqz1 hz2 oz1 tkz2 lN2 cN2 vsN hz3 tk' lz1 hz4 Dz1 hz5 hz6 lf4_rt1 lz2_1 hz7 D' h' nmV alV g0 ysC Dw hC tkC kC tC wsC hz8 oz4 tk g1 ysD Dd hD2 tkD exD; exact (no_implicit_lambda% H2_9.out))


theorem lt3_h : lf3_pk.P1 := by
  intro w; unhygienic intros
  clear hLo
  dsimp only
  walk_at "my go"
  · refine ⟨_, _, _ :: (exT ++ base), rfl, by assumption, news_due (by assumption), off3_cons (And.right (by assumption)) off, .tail _ q2, ⟨_ :: exT, rfl, Over.cons (allLt_app (And.right (And.right (And.right (And.right (by assumption))))) ) hov, ?_⟩⟩
    rw [dueP_take hxi, if_pos (by simp [*])]
    exact pairsIn_snoc hps
  · refine ⟨_, _, exT ++ base, rfl, by assumption, news_due2 (by assumption), off, q2, ⟨exT, rfl, hov, ?_⟩⟩
    rw [dueP_take hxi, if_neg (by simp [*])]
    exact hps
  · refine ⟨_, _, exT ++ base, rfl, F', N', off, q2, ⟨exT, rfl, hov, ?_⟩⟩
    rw [dueP_take hxi, if_neg (by simp [*])]
    exact hps


noncomputable def lf4_pk : Pk2 lf3_pk.P2 := by
  apply Pk2.mk
  intro H1_9 H2_9
  intro w; unhygienic intros
  have oDx : @Ne Nat dx Dd := off1_mem offD (dx, dictOf es 28) (List.mem_append.mpr (.inr (by k_mem)))
  have offD2 := off1_app offD
  simp only [LCg.Off1] at offD2
  have N4 : News s₁.heap s₁.heap.objs.size hD2 ((Dd, LCg.lst ysD) :: (Dw, LCg.lst ysC) :: (Dz1, W.listOf nmV.toArray 0) :: (kA, oK) :: (aA, oA) :: (nA, oN) :: (xA, instObj 114 dx) :: (dx, dictOf es 28) :: (d_1, oL) :: (l_1, W.listOf #[Value.int kC tC, Value.ref D_1] 0) :: (D_1, W.listOf ws_1.toArray 0) :: (s₁.heap.objs.size + 1 + 1 + 1 + 1, oz4) :: (s₁.heap.objs.size + 1 + 1 + 1, oz1) :: (s₁.heap.objs.size + 1 + 1, o_3) :: (s₁.heap.objs.size + 1, o_2) :: (exD ++ rest)) := by
    refine news_sub ND ?_
    have hs1 : ∀ p ∈ (Dw, LCg.lst ysC) :: (Dz1, W.listOf nmV.toArray 0) :: (kA, oK) :: (aA, oA) :: (nA, oN) :: (xA, instObj 114 dx) :: (dx, dictOf es 28) :: (d_1, oL) :: (l_1, W.listOf #[Value.int kC tC, Value.ref D_1] 0) :: (D_1, W.listOf ws_1.toArray 0) :: (s₁.heap.objs.size + 1 + 1 + 1 + 1, oz4) :: (s₁.heap.objs.size + 1 + 1 + 1, oz1) :: (s₁.heap.objs.size + 1 + 1, o_3) :: (s₁.heap.objs.size + 1, o_2) :: rest, p ∈ (Dd, LCg.lst ysD) :: (exD ++ ((Dw, LCg.lst ysC) :: (Dz1, W.listOf nmV.toArray 0) :: (kA, oK) :: (aA, oA) :: (nA, oN) :: (xA, instObj 114 dx) :: (dx, dictOf es 28) :: (d_1, oL) :: (l_1, W.listOf #[Value.int kC tC, Value.ref D_1] 0) :: (D_1, W.listOf ws_1.toArray 0) :: (s₁.heap.objs.size + 1 + 1 + 1 + 1, oz4) :: (s₁.heap.objs.size + 1 + 1 + 1, oz1) :: (s₁.heap.objs.size + 1 + 1, o_3) :: (s₁.heap.objs.size + 1, o_2) :: rest)) := fun p hp => .tail _ (List.mem_append.mpr (.inr hp))
    refine List.forall_mem_cons.mpr ⟨.head _, ?_⟩
    repeat (refine List.forall_mem_cons.mpr ⟨hs1 _ (by k_mem), ?_⟩)
    intro p hp
    rcases List.mem_append.mp hp with hp | hp
    · exact .tail _ (List.mem_append.mpr (.inl hp))
    · exact hs1 p (by repeat (first | exact hp | refine List.Mem.tail _ ?_))
  have hr4 : ∀ p ∈ exD ++ rest, @LT.lt Nat _ kA p.1 := fun p hp => by
    rcases List.mem_append.mp hp with hp | hp
    · exact hovD p hp (kA, oK) (by k_mem)
    · exact hrW p hp
  have hsb4 : ∀ p ∈ rest, p ∈ exD ++ rest := fun p hp => List.mem_append.mpr (.inr hp)
  have hpsE := pairsIn_sub hpsD (nw' := exD ++ rest) fun p hp => List.mem_append.mpr (.inl hp)
  have hSt4 := hSt.mono hsb4
  have hNo4 := hNo.mono hsb4
  have hAo4 := hAo.mono hsb4
  clear hSt hNo hAo hsb4 hpsD hovD offD ND NN9 FF9 hrW offC
  generalize exD ++ rest = rest4 at N4 hr4 hpsE hSt4 hNo4 hAo4
  dsimp only
  walk_at "my go"
  refine SrcDT.ledger (by rfl) (by k_asm) N4 (by k_mem) hAd lA' (by rw [sizeLine_eq]; omega) ?_
  intro g2
  refine compT_inv (J := fun i ys nw => ∃ (ex : List (Addr × Obj)) (gp : List (Str × Value)), nw = ex ++ ((Dd, LCg.lst ysD) :: (Dw, LCg.lst ysC) :: (Dz1, W.listOf nmV.toArray 0) :: (kA, oK) :: (aA, oA) :: (nA, oN) :: (xA, instObj 114 dx) :: (dx, dictOf es 28) :: (d_1, oL) :: (l_1, W.listOf #[Value.int kC tC, Value.ref D_1] 0) :: (D_1, W.listOf ws_1.toArray 0) :: (s₁.heap.objs.size + 1 + 1 + 1 + 1, oz4) :: (s₁.heap.objs.size + 1 + 1 + 1, oz1) :: (s₁.heap.objs.size + 1 + 1, o_3) :: (s₁.heap.objs.size + 1, o_2) :: rest4) ∧
    Over ex ((Dd, LCg.lst ysD) :: (Dw, LCg.lst ysC) :: (Dz1, W.listOf nmV.toArray 0) :: (kA, oK) :: (aA, oA) :: (nA, oN) :: (xA, instObj 114 dx) :: (dx, dictOf es 28) :: (d_1, oL) :: (l_1, W.listOf #[Value.int kC tC, Value.ref D_1] 0) :: (D_1, W.listOf ws_1.toArray 0) :: (s₁.heap.objs.size + 1 + 1 + 1 + 1, oz4) :: (s₁.heap.objs.size + 1 + 1 + 1, oz1) :: (s₁.heap.objs.size + 1 + 1, o_3) :: (s₁.heap.objs.size + 1, o_2) :: rest4) ∧ PairsIn ex ys gp ∧ GridsIn ex gp ∧ gp.map (·.1) = gridK kvsL wsC (kvsA.take i)) ?_ ?_ _ _ _ _ (Nat.zero_add _) ⟨[], [], rfl, Over.nil, pairsIn_nil, GridsIn.nil, rfl⟩
  · intro i ys nw v I oI C oC D m₂ h tk E' hi hJ hP hC hx F' N' off ne
    obtain ⟨exT, gpT, rfl, hov, hps, hgr, hgk⟩ := hJ
    obtain ⟨x, xv, hxi, hxk⟩ := hP
    obtain ⟨tx, rfl⟩ := Value.isStrOf_shape hxk
    have hvx := valueAt_get (nodup_of hAd) hxi
    have hx1 := (arrs4_len x (hAo4 x xv hvx).1).1
    have hx2 := (arrs4_len x (hAo4 x xv hvx).1).2
    generalize hBB : (_ :: _ :: _ :: _ :: _ :: _ :: _ :: _ :: _ :: _ :: _ :: _ :: _ :: _ :: _ :: rest4 : List (Addr × Obj)) = base at N' off hov ⊢
    have q1 : (Dw, LCg.lst ysC) ∈ exT ++ base := List.mem_append.mpr (.inr (by rw [← hBB]; k_mem))
    have q2 : (aA, oA) ∈ exT ++ base := List.mem_append.mpr (.inr (by rw [← hBB]; k_mem))
    have q5 : (d_1, oL) ∈ exT ++ base := List.mem_append.mpr (.inr (by rw [← hBB]; k_mem))
    have q6 : (s₁.heap.objs.size + 1 + 1 + 1 + 1, oz4) ∈ exT ++ base := List.mem_append.mpr (.inr (by rw [← hBB]; k_mem))
    have q8 : (s₁.heap.objs.size + 1 + 1, o_3) ∈ exT ++ base := List.mem_append.mpr (.inr (by rw [← hBB]; k_mem))
    clear hBB N4 FD
    (rename_i lt4_rt1 lt4_rt2 lt4_rt3; revert w s₀ s₁ mg mb fa o pm doc a1 a2 a3 a4 ns a6 a7 sA wv a9 h1 tk1 o4 o3 o2 o1 D_1 ws_1 h_1 l_1 h_2 d_1 h_3 o_1 D_2 h_4 h_5 h_6 o_2 h_7 o_3 lf1_rt1 i_1 ns' u lt4_rt1 tkz1 oL kvsL k t1 m0 xA dx nA aA kA fA ouA inA fiA opA feA daA trA coA oN oA oK kvsN kvsA kW es w1 w2 w3 w4 w5 w6 w7 w8 w9 tp rest hz1 tqz1 hz2 oz1 tkz2 lN2 cN2 vsN hz3 tk' lz1 hz4 Dz1 hz5 hz6 lf4_rt1 lz2_1 hz7 D' h' nmV alV g0 ysC Dw lt4_rt2 tkC kC tC wsC hz8 oz4 lt4_rt3 g1 ysD Dd hD2 tkD exD rest4 g2 i ys I oI C oC D m₂ h tk E' exT gpT x xv tx base; exact (no_implicit_lambda% H1_9.out))
  · intro ysG nw hJ Dg hG tkG FG NG offG
    obtain ⟨exG, gpG, rfl, hovG, hpsG, hgrG, hgkG⟩ := hJ
    rw [List.take_length] at hgkG
    (revert w s₀ s₁ mg mb fa o pm doc a1 a2 a3 a4 ns a6 a7 sA wv a9 h1 tk1 o4 o3 o2 o1 D_1 ws_1 h_1 l_1 h_2 d_1 h_3 o_1 D_2 h_4 h_5 h_6 o_2 h_7 o_3 lf1_rt1 i_1 ns' u h tkz1 oL kvsL k t1 m0 xA dx nA aA kA fA ouA inA fiA opA feA daA trA coA oN oA oK kvsN kvsA kW es w1 w2 w3 w4 w5 w6 w7 w8 w9 tp rest hz1 tqz1 hz2 oz1 tkz2 lN2 cN2 vsN hz3 tk' lz1 hz4 Dz1 hz5 hz6 lf4_rt1 lz2_1 hz7 D' h' nmV alV g0 ysC Dw hC tkC kC tC wsC hz8 oz4 tk g1 ysD Dd hD2 tkD exD rest4 g2 ysG Dg hG tkG exG gpG; exact (no_implicit_lambda% H2_9.out))


theorem lt4_h : lf4_pk.P1 := by
  intro w; unhygienic intros
  clear hLo
  dsimp only
  walk_at "my go"
  · rename_i lA9 _ l9a Dt _ _ _ l9b
    refine ⟨_, _, _ :: _ :: (exT ++ base), rfl, by assumption, news_grid (by assumption), off3_cons ⟨l9b.2.2.1, l9b.2.2.2.1, l9b.2.2.2.2.1, l9b.1, l9b.2.2.2.2.2⟩ (off3_cons (And.right l9a) off), .tail _ (.tail _ q2), ⟨_ :: _ :: exT, _, rfl, Over.cons (allLt_app l9b.2.2.2.2.2) (Over.cons (allLt_app l9a.2.2.2.2) hov), pairsIn_snoc (pairsIn_sub hps fun q hq => .tail _ hq), (hgr.mono fun p hp => .tail _ (.tail _ hp)).snoc (.tail _ (.head _)), ?_⟩⟩
    rw [gridK_take hxi, if_pos (by simp [*]), List.map_append, hgk]
    rfl
  · refine ⟨_, _, exT ++ base, rfl, by assumption, news_due2 (by assumption), off, q2, ⟨exT, gpT, rfl, hov, hps, hgr, ?_⟩⟩
    rw [gridK_take hxi, if_neg (by simp [*])]
    exact hgk
  · refine ⟨_, _, exT ++ base, rfl, F', N', off, q2, ⟨exT, gpT, rfl, hov, hps, hgr, ?_⟩⟩
    rw [gridK_take hxi, if_neg (by simp [*])]
    exact hgk

theorem rows_17 : True := by
  k_with_none
  k_with "my enter" => ((refine wpAny_call ?_; k_dflt (refine' code_defG ?k1 ?k2 ?k3 ?k4 ?k5 ?kA ?kF ?kK ?k6 ?k7 ?k8 ?k9 ?kB ?_ ?c2 ?c3 ?c4 ?c5; (case kA => exact rfl); (case kF => exact rfl); (case kK => assumption); (case k1 => k_asm); (case k2 => k_asm); (case k3 => k_asm); (case k4 => k_asm); (case k5 => k_asm); (case k6 => k_is); (case k7 => k_is); (case k8 => ktr_room); (case k9 => exact BindsTo.of_eq rfl); (case c5 => decide); (case kB => exact locs rfl); (case c2 => exact rfl); (case c3 => exact rfl); (case c4 => exact rfl); k_whole; intro g' L' h' FG' F' N' B' X' T' kG'; (try dsimp only); (try k_lift B'); (try k_fold))))
  k_with "my enterC" => ((refine wpAny_call ?_; k_dflt (refine' code_defC ?k1 ?k2 ?k3 ?k4 ?k5 ?kA ?kF ?kK ?k6 ?k7 ?k8 ?k9 ?kB ?kD ?_ ?c2 ?c3 ?c4; (case kA => exact rfl); (case kF => exact rfl); (case kK => assumption); (case k1 => k_asm); (case k2 => k_asm); (case k3 => k_asm); (case k4 => k_asm); (case k5 => k_asm); (case k6 => k_is); (case k7 => k_is); (case k8 => ktr_room); (case k9 => exact BindsTo.of_eq rfl); (case kB => exact rfl); (case kD => decide +kernel); (case c2 => exact rfl); (case c3 => exact rfl); (case c4 => exact rfl); k_whole; intro g' L' h' tk' cells' FG' F' N' Y' B' X' T' l1; (try k_lt l1); (obtain ⟨oc, hE', d1⟩ := CellsAre.one Y'; subst hE'; clear Y'); (try simp only [List.cons_append, List.nil_append] at N'); (try dsimp only); (try k_lift B'); (try k_fold))))
  k_with "ite" => (first | with_reducible refine ite_tt ?_ | with_reducible refine ite_ff ?_)
  k_with "call ref" => ((k_here; k_dflt (refine' kind_K ?k1 ?k2 ?k3 ?k4 ?k5 ?k6 ?k7 ?k8 ?k9 ?ka ?kb ?kc ?kd ?ke ?_; (case k1 => k_asm); (case k2 => k_asm); (case k3 => k_asm); (case k4 => k_asm); (case k5 => k_asm); (case k6 => first | exact rfl | assumption); (case k7 => k_mem); (case k8 => k_asm); (case k9 => k_asm); (case ka => ktr_room); (case kb => ktr_units); (case kc => first | assumption | omega); (case kd => first | assumption | omega); (case ke => first | assumption | exact allStr_nil); k_whole; intro t' h' tk' F' N' cE')))
  k_with "call ref" => ((k_here; k_dflt (refine' isarr_K ?k1 ?k2 ?k3 ?k4 ?k5 ?k6 ?ka ?kb ?kc ?kd ?_; (case k1 => k_asm); (case k2 => k_asm); (case k3 => k_asm); (case k4 => k_asm); (case k5 => k_asm); (case k6 => first | exact rfl | assumption); (case ka => ktr_room); (case kb => ktr_units); (case kc => first | assumption | omega); (case kd => first | assumption | omega); k_whole; intro h' tk' F' N')))
  k_with "call ref" => ((k_here; k_dflt (refine' means_K ?k1 ?k2 ?k3 ?k4 ?k5 ?k6 ?k7 ?k71 ?k72 ?k73 ?k8 ?k9 ?ka ?kb ?kc ?kd ?ke ?_; (case k1 => k_asm); (case k2 => k_asm); (case k3 => k_asm); (case k4 => k_asm); (case k5 => k_asm); (case k6 => first | exact rfl | assumption); (case k71 => k_mem); (case k72 => k_mem); (case k73 => first | assumption | k_get); (case k7 => k_mem); (case k8 => k_asm); (case k9 => k_asm); (case ka => ktr_room); (case kb => ktr_units); (case kc => first | assumption | omega | exact (hkl _ (by assumption)).1); (case kd => first | assumption | omega | exact (hkl _ (by assumption)).2); (case ke => first | assumption | exact allStr_nil); k_whole; intro h' tk' F' N')))
  k_with "getAttr ref" => ((k_here; k_dflt (refine' get_own ?F ?X ?I ?g ?h ?a ?n ?l ?v ?_; (case F => k_asm); (case X => k_asm); (case I => k_inst); (case g => k_is); (case h => k_is); (case a => k_is); (case n => k_is); (case l => assumption); (case v => k_handed); k_whole)))
  k_with "exec Assign cons ListComp" => ((k_here; k_dflt (refine LCt.Assign_ListComp_T (F₀ := by k_asm) (by rfl) (by with_unfolding_all rfl) (by with_unfolding_all rfl) (by decide) (by rfl) (by decide) (by rfl) (by rfl) (by rfl) ?_)))
  k_with "eval ListComp" => ((k_here; k_dflt (refine LCt.ListComp_T (F₀ := by k_asm) (by with_unfolding_all rfl) (by decide) (by rfl) (by decide) (by rfl) ?_)))
  k_with "compareOp In str ref" => ((k_here; k_dflt (refine kda_in (knd := PySem.strKind _ _) (by k_asm) (by k_mem) (by k_asm) (by k_asm) (strKind_is _ _ _ _) ((valueAt _ _).isSome) (by rfl) ?_)))
  k_with "subscriptTail" => ((k_here; (with_reducible show wpAny _ _ (subscriptTail _ _ (Value.ref _) (Value.str _ _)) _ _ _); (obtain ⟨v9, hv9⟩ := Option.isSome_iff_exists.mp (by assumption : (valueAt _ _).isSome = true)); k_dflt (refine kda_item (knd := PySem.strKind _ _) (by k_asm) (by k_mem) (by k_asm) (strKind_is _ _ _ _) hv9 ?_)))
  k_with "call type:dict" => ((k_here; (with_reducible show wpAny _ _ (call (Value.type "dict") [Value.ref _]) _ _ _); k_dflt (refine' dict_pairs_K ?kh ?k1 ?k2 ?k3 ?k4 ?k5 ?k6 ?_; (case kh => exact rfl); (case k1 => k_asm); (case k2 => k_asm); (case k3 => exact modules_low (Top.nolimit (by k_asm))); (case k4 => k_mem); (case k5 => assumption); (case k6 => omega); k_whole; intro d' o' h' tk' F' N' l1 lo' hd')))
  k_with "call type:list" => ((k_here; (with_reducible show wpAny _ _ (call (Value.type "list") [Value.ref _]) _ _ _); k_dflt (refine' list_items_K ?kh ?k1 ?k2 ?k3 ?k4 ?k5 ?k6 ?_; (case kh => exact rfl); (case k1 => k_asm); (case k2 => k_asm); (case k3 => k_mem); (case k4 => k_mem); (case k5 => k_asm); (case k6 => omega); k_whole; intro lS its9 c9 extra9 h' tk' F' N' hP9)))
  k_with "call type:dict" => ((k_here; (with_reducible show wpAny _ _ (call (Value.type "dict") [Value.ref _]) _ _ _); k_dflt (refine' dict_pairs_drop ?kh ?k1 ?k2 ?k3 ?k4 ?k5 ?k6 ?_; (case kh => exact rfl); (case k1 => k_asm); (case k2 => k_asm); (case k3 => exact modules_low (Top.nolimit (by k_asm))); (case k4 => exact rfl); (case k5 => assumption); (case k6 => omega); k_whole; intro dK oK h' tk' F' N' lK loK hdK; (try simp only [AllLt, and_true] at lK))))
  k_with "call ref" => ((k_here; k_dflt (refine' take_F ?k1 ?k2 ?k3 ?k4 ?k5 ?k6 ?k7 ?k8 ?k9 ?ka ?kb ?kc ?kd ?ke ?kf ?kg ?kh ?_; (case k1 => k_asm); (case k2 => k_asm); (case k3 => k_asm); (case k4 => k_asm); (case k5 => k_asm); (case k6 => first | exact rfl | assumption); (case k7 => k_updF); (case k8 => k_mem); (case k9 => assumption); (case ka => omega); (case kb => omega); (case kc => decide); (case kd => decide); (case ke => omega); (case kf => ktr_room); (case kg => ktr_units); (case kh => assumption); k_whole; intro rr tr tp h' tk' hr0 hr1 F' N'; (try dsimp only at N'))))
  k_with "call ref" => ((k_here; k_dflt (refine' own_K ?k1 ?k2 ?k3 ?k4 ?k5 ?k6 ?k7 ?k8 ?k9 ?ka ?kb ?kc ?kd ?ke ?_; (case k1 => k_asm); (case k2 => k_asm); (case k3 => k_asm); (case k4 => k_asm); (case k5 => k_asm); (case k6 => first | exact rfl | assumption); (case k7 => k_mem); (case k8 => k_asm); (case k9 => k_asm); (case ka => ktr_room); (case kb => ktr_units); (case kc => first | assumption | omega | decide); (case kd => first | assumption | omega | decide); (case ke => first | assumption | exact allStr_nil); k_whole; intro qo to h' tk' F' N' l1; (try simp only [AllLt, and_true] at l1))))
  k_with "cj" => (with_reducible (first | assumption | exact And.right (by first | assumption | exact And.right (by first | assumption | exact And.right (by first | assumption | exact And.right (by first | assumption | exact And.right (by first | assumption | exact And.right (by first | assumption | exact And.right (by first | assumption | exact And.right (by first | assumption | exact And.right (by first | assumption | exact And.right (by first | assumption | exact And.right (by first | assumption | exact And.right (by first | assumption | exact And.right (by first | assumption | exact And.right (by first | assumption | exact And.right (by first | assumption | exact And.right (by first | assumption | exact And.right (by first | assumption | exact And.right (by first | assumption | exact And.right (by first | assumption | exact And.right (by first | assumption | exact And.right (by first | assumption | exact And.right (by first | assumption | exact And.right (by first | assumption | exact And.right (by first | assumption | exact And.right (by first | assumption | exact And.right (by assumption))))))))))))))))))))))))))))
  k_with "ne" => (first | exact Nat.ne_of_gt (And.left (by k_extra "cj")) | exact Nat.ne_of_lt (And.left (by k_extra "cj")) | exact Nat.ne_of_gt (by with_reducible assumption) | exact Nat.ne_of_lt (by with_reducible assumption) | exact Nat.ne_of_gt (by k_extra "cj") | exact Nat.ne_of_lt (by k_extra "cj") | (refine neN ?_; (try dsimp only); omega))
  k_with "all" => (first | exact List.forall_mem_nil _ | (refine' List.forall_mem_cons.mpr ⟨?a, ?b⟩; (case a => first | exact Nat.ne_of_lt (And.left (by k_extra "cj")) | k_ne); (case b => k_all)) | assumption | exact allLt_ne (by k_extra "cj") | exact gt_ne (by assumption) (by first | assumption | omega) | fail "k_all")
  k_with "call ref" => ((k_here; k_dflt (refine' own3_K ?k1 ?k2 ?k3 ?k4 ?k5 ?k6 ?k7 ?k8 ?k9 ?ka ?kb ?kc ?kd ?ke ?_ ?_ ?_; (case k1 => k_asm); (case k2 => k_asm); (case k3 => k_asm); (case k4 => k_asm); (case k5 => k_asm); (case k6 => first | exact rfl | assumption); (case k7 => k_mem); (case k8 => k_asm); (case k9 => k_asm); (case ka => ktr_room); (case kb => ktr_units); (case kc => first | assumption | omega | decide); (case kd => first | assumption | omega | decide); (case ke => first | assumption | exact K3.nil); k_whole; all_goals (intro qo to h' tk' eO9 F' N' l1; (try simp only [AllLt, and_true] at l1)))))
  k_with "eval Dict" => ((k_here; k_dflt (first
        | (refine' kdn_str ?q ?F ?N ?b ?a ?l ?e ?n ?_; (case q => rfl); (case F => k_asm); (case N => first | k_asm | exact News.nil); (case b => exact Top.nolimit (by k_asm)); (case a => rfl); (case l => rfl); (case e => exact List.cons_ne_nil _ _); (case n => exact Nat.le_of_ble_eq_true rfl))
        | (refine' kdn_int ?q ?F ?N ?b ?a ?l ?e ?n ?_; (case q => rfl); (case F => k_asm); (case N => first | k_asm | exact News.nil); (case b => exact Top.nolimit (by k_asm)); (case a => rfl); (case l => rfl); (case e => exact List.cons_ne_nil _ _); (case n => exact Nat.le_of_ble_eq_true rfl))); intro d' h' o' F' N' l1 lo' hd'; (try k_lt l1)))
  k_with "setItem ref str" => ((k_here; k_dflt (refine' kda_set (knd := PySem.strKind _ _) ?F ?N ?U ?d (strKind_is _ _ _ _) ?z ?_; (case F => k_asm); (case N => k_asm); (case U => k_updF); (case d => assumption); (case z => rw [sizeLine_eq]; omega)); intro h' o' F' N' hdS'; (try dsimp only at N')))
  k_with "my sub" => (((repeat (refine List.forall_mem_cons.mpr ⟨by k_mem, ?_⟩)); first | exact List.forall_mem_nil _ | (intro p hp; repeat (first | exact hp | refine List.Mem.tail _ ?_))))
  k_with "execs cons" => (first | (k_here; k_gentoks) | ((with_reducible refine wpAny_execs_cons ?_); try dsimp only))
  k_with "assignInOrder" => ((dsimp only; walk_at "assignInOrder"))
  k_with "enter" => (first
        | (refine' code_def ?k1 ?k2 ?k3 ?k4 ?k5 ?kA ?kF ?kK ?k6 ?k7 ?k8 ?k9 ?kB ?_ ?c2 ?c3 ?c4 ?c5; (case kA => exact rfl); (case kF => exact rfl); (case kK => first | exact rfl | assumption); (case k1 => k_asm); (case k2 => k_asm); (case k3 => k_asm); (case k4 => k_asm); (case k5 => k_asm); (case k6 => k_is); (case k7 => k_is); (case k8 => ktr_room); (case k9 => first | exact BindsTo.of_eq rfl | exact binds_K (by k_in) rfl (by k_is) rfl rfl rfl | fail "k_enter: no rule for these arguments"); (case c5 => decide); (case kB => exact locs rfl); (case c2 => exact rfl); (case c3 => exact rfl); (case c4 => exact rfl); k_whole; intro g' L' h' FG' F' N' B' X' T'; (try dsimp only); (try k_lift B'); (try k_fold)))
  k_with "call ref" => ((k_here; (with_reducible show wpAny _ _ (call (Value.ref 160) _) _ _ _); k_dflt (refine' world_K (N := news_sub (by assumption) ?kN) ?k1 ?k2 ?k3 ?k5 ?k6 ?k7 ?k8 ?k9 ?ka ?kb ?kc ?kd ?ke ?kf ?kg ?kh ?ki ?_; (case k1 => k_asm); (case k2 => k_asm); (case k3 => k_asm); (case kN => walk_at "my sub"); (case k5 => k_asm); (case k6 => first | exact rfl | assumption); (case k7 => assumption); (case k8 => omega); (case k9 => omega); (case ka => omega); (case kb => omega); (case kc => omega); (case kd => assumption); (case ke => assumption); (case kf => assumption); (case kg => omega); (case kh => ktr_room); (case ki => ktr_units); k_whole; intro xA dx nA aA kA fA ouA inA fiA opA feA daA trA coA oN oA oK kvsN kvsA kW es w1 w2 w3 w4 w5 w6 w7 w8 w9 tp rest h' tk' FW NW kpW hkW loW hrW lN lA' lK hNd hNo hNl hAd hAo hAl hKd hSt hA hEl)))
  k_with "call type:list" => ((k_here; (with_reducible show wpAny _ _ (call (Value.type "list") [Value.ref _]) _ _ _); k_dflt (refine' list_keys_K ?kh ?k1 ?k2 ?k3 ?k4 ?k5 ?k6 ?_; (case kh => exact rfl); (case k1 => k_asm); (case k2 => k_asm); (case k3 => k_mem); (case k4 => assumption); (case k5 => k_asm); (case k6 => omega); k_whole; intro lN2 cN2 vsN h' tk' hvN F' N' lNN; (try simp only [AllLt, and_true] at lNN))))
  k_with "binaryOp Add ref ref" => ((k_here; (with_reducible show wpAny _ _ (binaryOp _ (Value.ref _) (Value.ref _)) _ _ _); k_dflt (refine' add_lists_K ?F ?N ?a ?b ?z ?_; (case F => k_asm); (case N => k_asm); (case a => k_mem); (case b => k_mem); (case z => walk_at "my len")); intro D' h' F' N' l1; (try simp only [AllLt, and_true] at l1)))
  k_with "my len" => (((have hLn9 := strsAre_len hvN); (simp only [List.length_append, List.length_map, List.length_cons, List.length_nil] at *); omega))
  k_with "exec Assign cons ListComp" => ((k_here; (with_reducible show wpAny _ _ (exec (.Assign _ (.ListComp _ [⟨_, .Attribute _ _ _, _, _⟩] _ _) _) _) _ _ _); k_dflt (refine Assign_ListComp_TD (knd := PySem.strKind _ _) (by k_asm) (by rfl) (by with_unfolding_all rfl) (by with_unfolding_all rfl) (by decide) (by rfl) (by decide) (by rfl) (by rfl) (by rfl) ?_)))
  k_with "compareOp In str ref" => ((k_here; k_dflt (refine in_words_K (by k_asm) (by k_mem) hWd ?_)))
  k_with "getItem ref str" => ((k_here; k_dflt (refine kdt_getItem (knd := PySem.strKind _ _) (by k_asm) (by k_mem) (by k_asm) (strKind_is _ _ _ _) (by assumption) ?_)))
  k_with "my go" => (repeat' ((fail_if_success with_reducible refine strRest_at ?_); (fail_if_success with_reducible refine itemsRest_at ?_); (fail_if_success with_reducible show wpAny _ _ (call (Value.ref 96) _) _ _ _); (fail_if_success with_reducible show wpAny _ _ (call (Value.ref 132) _) _ _ _); (fail_if_success with_reducible show wpAny _ _ (call (Value.ref 139) _) _ _ _); (fail_if_success with_reducible show wpAny _ _ (call (Value.ref 167) _) _ _ _); (fail_if_success with_reducible show wpAny _ _ (call (Value.ref 174) _) _ _ _); (fail_if_success with_reducible show wpAny _ _ (call (Value.ref 181) _) _ _ _); (fail_if_success with_reducible show wpAny _ _ (call (Value.ref 65) _) _ _ _); (fail_if_success with_reducible show wpAny _ _ (compareOp CmpOp.NotEq (Value.ref _) (Value.ref _)) _ _ _); (fail_if_success with_reducible show wpAny _ _ (call (Value.builtin "repr") _) _ _ _); first | (k_unfold; (try dsimp only)) | walk1 | (dsimp only; walk1) | fail "no step"))
  trivial

noncomputable def lf5_pk : Pk1 lf4_pk.P2 := by
  apply Pk1.mk
  intro H1_9
  intro w; unhygienic intros
  have oGx : @Ne Nat dx Dg := off1_mem offG (dx, dictOf es 28) (List.mem_append.mpr (.inr (by k_mem)))
  have offG2 := off1_app offG
  simp only [LCg.Off1] at offG2
  have N5 : News s₁.heap s₁.heap.objs.size hG ((Dg, LCg.lst ysG) :: (Dd, LCg.lst ysD) :: (Dw, LCg.lst ysC) :: (Dz1, W.listOf nmV.toArray 0) :: (kA, oK) :: (aA, oA) :: (nA, oN) :: (xA, instObj 114 dx) :: (dx, dictOf es 28) :: (d_1, oL) :: (l_1, W.listOf #[Value.int kC tC, Value.ref D_1] 0) :: (D_1, W.listOf ws_1.toArray 0) :: (s₁.heap.objs.size + 1 + 1 + 1 + 1, oz4) :: (s₁.heap.objs.size + 1 + 1 + 1, oz1) :: (s₁.heap.objs.size + 1 + 1, o_3) :: (s₁.heap.objs.size + 1, o_2) :: (exG ++ rest4)) := news_rot (base := [_, _, _, _, _, _, _, _, _, _, _, _, _, _, _]) NG
  have hr5 : ∀ p ∈ exG ++ rest4, @LT.lt Nat _ kA p.1 := fun p hp => by
    rcases List.mem_append.mp hp with hp | hp
    · exact hovG p hp (kA, oK) (by k_mem)
    · exact hr4 p hp
  have hsb5 : ∀ p ∈ rest4, p ∈ exG ++ rest4 := fun p hp => List.mem_append.mpr (.inr hp)
  have hpsF := pairsIn_sub hpsG (nw' := exG ++ rest4) fun p hp => List.mem_append.mpr (.inl hp)
  have hgrF := hgrG.mono (led' := exG ++ rest4) fun p hp => List.mem_append.mpr (.inl hp)
  have hpsE5 := pairsIn_sub hpsE hsb5
  have hSt5 := hSt4.mono hsb5
  have hNo5 := hNo4.mono hsb5
  have hAo5 := hAo4.mono hsb5
  clear hSt4 hNo4 hAo4 hsb5 hpsG hgrG hpsE hovG offG NG FD N4 hr4 offD2
  generalize exG ++ rest4 = rest5 at N5 hr5 hpsE5 hpsF hgrF hSt5 hNo5 hAo5
  clear ga1 ga2 ga3
  dsimp only
  walk_at "my go"
  (revert w s₀ s₁ mg mb fa o pm doc a1 a2 a3 a4 ns a6 a7 sA wv a9 h1 tk1 o4 o3 o2 o1 D_1 ws_1 h_1 l_1 h_2 d_1 h_3 o_1 D_2 h_4 h_5 h_6 o_2 h_7 o_3 lf1_rt1 i_1 ns' u h tkz1 oL kvsL k t1 m0 xA dx nA aA kA fA ouA inA fiA opA feA daA trA coA oN oA oK kvsN kvsA kW es w1 w2 w3 w4 w5 w6 w7 w8 w9 tp rest hz1 tqz1 hz2 oz1 tkz2 lN2 cN2 vsN hz3 tk' lz1 hz4 Dz1 hz5 hz6 lf4_rt1 lz2_1 hz7 D' h' nmV alV g0 ysC Dw hC tkC kC tC wsC hz8 oz4 tk g1 ysD Dd hD2 tkD exD rest4 g2 ysG Dg hG tkG exG gpG rest5; exact (no_implicit_lambda% H1_9.out))


noncomputable def lf6_pk : Pk1 lf5_pk.P1 := by
  apply Pk1.mk
  intro H1_9
  intro w; unhygienic intros
  have hno : ∀ p ∈ rest5, p.1 ≠ sysModules := fun p hp => by
    have h1 := hr5 p hp
    exact sys_off (by omega)
  k_dflt (refine' stays_K ?k1 ?k2 ?k3 ?k4 ?k5 ?k6 ?m1 ?m2 ?hA ?ka ?kb ?_; (case k1 => k_asm); (case k2 => k_asm); (case k3 => k_asm); (case k4 => k_asm); (case k5 => k_asm); (case k6 => first | exact rfl | assumption); (case m1 => k_mem); (case m2 => k_mem); (case hA => exact hA.sub (by repeat (first | exact List.forall_mem_nil _ | refine List.forall_mem_cons.mpr ⟨by with_unfolding_all rfl, ?_⟩))); (case ka => ktr_room); (case kb => ktr_units); k_whole; intro q9 h' tk' F' N' l1)
  walk_at "my go"
  refine' repr_stays (rest := rest5) ?F ?N ?q hSt5 ?s hno ?n ?g ?u ?_
  case F => k_asm
  case N => k_asm
  case q => k_mem
  case s => (intro p hp; repeat (first | exact hp | refine List.Mem.tail _ ?_))
  case n => exact sys_off (by simp only [AllLt] at l1; omega)
  case g => exact rfl
  case u => k_units
  intro h' u9 tk' F' N'
  walk_at "my go"
  (rename_i lf7_rt1 lf7_rt2 lf7_rt3 lf7_rt4 lf7_rt5 lf7_rt6 _ _; revert w s₀ s₁ mg mb fa o pm doc a1 a2 a3 a4 ns a6 a7 sA wv a9 h1 tk1 o4 o3 o2 o1 D_1 ws_1 h_1 l_1 h_2 d_1 h_3 o_1 D_2 h_4 h_5 h_6 o_2 h_7 o_3 lf1_rt1 i_1 ns' u h tkz1 oL kvsL k t1 m0 xA dx nA aA kA fA ouA inA fiA opA feA daA trA coA oN oA oK kvsN kvsA kW es w1 w2 w3 w4 w5 w6 w7 w8 w9 tp rest hz1 tqz1 hz2 oz1 tkz2 lN2 cN2 vsN hz3 lf7_rt1 lz1 hz4 Dz1 hz5 hz6 lf4_rt1 lz2_1 hz7 D' lf7_rt2 nmV alV g0 ysC Dw hC tkC kC tC wsC hz8 oz4 lf7_rt3 g1 ysD Dd hD2 tkD exD rest4 g2 ysG Dg hG tkG exG gpG rest5 q9 lf7_rt4 lf7_rt5 h' u9 tk' lf7_rt6 tk; exact (no_implicit_lambda% H1_9.out))


noncomputable def lf7_pk : Pk1 lf6_pk.P1 := by
  apply Pk1.mk
  intro H1_9
  intro w; unhygienic intros
  clear N5 FG offG2
  have hwW := words_in hNo5 hmemC
  rename News _ _ _ _ => N6
  rename Fr _ _ _ _ => F6
  k_dflt (refine' hand_on_K (news := (Dg, LCg.lst ysG) :: (Dd, LCg.lst ysD) :: (Dw, LCg.lst ysC) :: (Dz1, W.listOf nmV.toArray 0) :: (kA, oK) :: (aA, oA) :: (nA, oN) :: (d_1, oL) :: (l_1, W.listOf #[Value.int kC tC, Value.ref D_1] 0) :: (D_1, W.listOf ws_1.toArray 0) :: (s₁.heap.objs.size + 1 + 1 + 1 + 1, oz4) :: (s₁.heap.objs.size + 1 + 1 + 1, oz1) :: (s₁.heap.objs.size + 1 + 1, o_3) :: (s₁.heap.objs.size + 1, o_2) :: rest5) (ws := wsC) (wv := ysC) (kvsK := kvsL) (kvsN := kvsN) (kvsA := kvsA) (nA := nA) (aA := aA) (kA := kA) (wA := Dw) ?k1 ?k2 ?k3 ?k4 ?k5 ?k6 ?ho ?ho2 ?hz ?hA ?hmK ?hkd ?loK ?hv ?hmN ?hnd ?loN ?hmA ?had ?loA ?hkl ?hmW ?hW ?hwl ?hwn ?ka ?kb ?_)
  case k1 => k_asm
  case k2 => k_asm
  case k3 => k_asm
  case k4 => exact news_sub N6 (by walk_at "my sub")
  case k5 => k_asm
  case k6 => first | exact rfl | assumption
  case ho => omega
  case ho2 => exact List.forall_mem_cons.mpr ⟨Ne.symm oGx, List.forall_mem_cons.mpr ⟨Ne.symm oDx, List.forall_mem_cons.mpr ⟨Ne.symm oCx, by k_all⟩⟩⟩
  case hz => exact hEl
  case hA => exact hA
  case hmK => k_mem
  case hkd => exact hKd
  case loK => exact lK
  case hv => exact hLs
  case hmN => k_mem
  case hnd => exact hNd
  case loN => exact lN
  case hmA => k_mem
  case had => exact hAd
  case loA => exact lA'
  case hkl => exact fun k hk => (by obtain ⟨v, hv⟩ := Option.isSome_iff_exists.mp hk; have := arrs4_len k (hAo5 k v hv).1; omega)
  case hmW => k_mem
  case hW => exact hWd
  case hwl => exact fun x hx => words_len (hwW x hx)
  case hwn => omega
  case ka => ktr_room
  case kb => ktr_units
  intro q1 q2 q3 q4 q5 q6 p1 p2 p3 p4 x1 x2 x3 x4 x5 es2 h' tk' F' N' dp1 dp2 dp3 dp4 ls4 hA2 hEl2 hq1 hq2 hq3 hq4 hq5 hq6
  clear hA hEl N6 F6
  walk_at "my go"
  (rename_i lf8_rt1 lf8_rt2; revert w s₀ s₁ mg mb fa o pm doc a1 a2 a3 a4 ns a6 a7 sA wv a9 h1 tk1 o4 o3 o2 o1 D_1 ws_1 h_1 l_1 h_2 d_1 h_3 o_1 D_2 h_4 h_5 h_6 o_2 h_7 o_3 lf1_rt1 i_1 ns' u h tkz1 oL kvsL k t1 m0 xA dx nA aA kA fA ouA inA fiA opA feA daA trA coA oN oA oK kvsN kvsA kW es w1 w2 w3 w4 w5 w6 w7 w8 w9 tp rest hz1 tqz1 hz2 oz1 tkz2 lN2 cN2 vsN hz3 lf7_rt1 lz1 hz4 Dz1 hz5 hz6 lf4_rt1 lz2_1 hz7 D' lf7_rt2 nmV alV g0 ysC Dw hC tkC kC tC wsC hz8 oz4 lf7_rt3 g1 ysD Dd hD2 tkD exD rest4 g2 ysG Dg hG tkG exG gpG rest5 q9 lf7_rt4 lf7_rt5 lf8_rt1 u9 lf8_rt2 lf7_rt6 tk q1 q2 q3 q4 q5 q6 p1 p2 p3 p4 x1 x2 x3 x4 x5 es2 h' tk'; exact (no_implicit_lambda% H1_9.out))

theorem rows_18 : True := by
  k_with_none
  k_with "my enter" => ((refine wpAny_call ?_; k_dflt (refine' code_defG ?k1 ?k2 ?k3 ?k4 ?k5 ?kA ?kF ?kK ?k6 ?k7 ?k8 ?k9 ?kB ?_ ?c2 ?c3 ?c4 ?c5; (case kA => exact rfl); (case kF => exact rfl); (case kK => assumption); (case k1 => k_asm); (case k2 => k_asm); (case k3 => k_asm); (case k4 => k_asm); (case k5 => k_asm); (case k6 => k_is); (case k7 => k_is); (case k8 => ktr_room); (case k9 => exact BindsTo.of_eq rfl); (case c5 => decide); (case kB => exact locs rfl); (case c2 => exact rfl); (case c3 => exact rfl); (case c4 => exact rfl); k_whole; intro g' L' h' FG' F' N' B' X' T' kG'; (try dsimp only); (try k_lift B'); (try k_fold))))
  k_with "my enterC" => ((refine wpAny_call ?_; k_dflt (refine' code_defC ?k1 ?k2 ?k3 ?k4 ?k5 ?kA ?kF ?kK ?k6 ?k7 ?k8 ?k9 ?kB ?kD ?_ ?c2 ?c3 ?c4; (case kA => exact rfl); (case kF => exact rfl); (case kK => assumption); (case k1 => k_asm); (case k2 => k_asm); (case k3 => k_asm); (case k4 => k_asm); (case k5 => k_asm); (case k6 => k_is); (case k7 => k_is); (case k8 => ktr_room); (case k9 => exact BindsTo.of_eq rfl); (case kB => exact rfl); (case kD => decide +kernel); (case c2 => exact rfl); (case c3 => exact rfl); (case c4 => exact rfl); k_whole; intro g' L' h' tk' cells' FG' F' N' Y' B' X' T' l1; (try k_lt l1); (obtain ⟨oc, hE', d1⟩ := CellsAre.one Y'; subst hE'; clear Y'); (try simp only [List.cons_append, List.nil_append] at N'); (try dsimp only); (try k_lift B'); (try k_fold))))
  k_with "ite" => (first | with_reducible refine ite_tt ?_ | with_reducible refine ite_ff ?_)
  k_with "call ref" => ((k_here; k_dflt (refine' kind_K ?k1 ?k2 ?k3 ?k4 ?k5 ?k6 ?k7 ?k8 ?k9 ?ka ?kb ?kc ?kd ?ke ?_; (case k1 => k_asm); (case k2 => k_asm); (case k3 => k_asm); (case k4 => k_asm); (case k5 => k_asm); (case k6 => first | exact rfl | assumption); (case k7 => k_mem); (case k8 => k_asm); (case k9 => k_asm); (case ka => ktr_room); (case kb => ktr_units); (case kc => first | assumption | omega); (case kd => first | assumption | omega); (case ke => first | assumption | exact allStr_nil); k_whole; intro t' h' tk' F' N' cE')))
  k_with "call ref" => ((k_here; k_dflt (refine' isarr_K ?k1 ?k2 ?k3 ?k4 ?k5 ?k6 ?ka ?kb ?kc ?kd ?_; (case k1 => k_asm); (case k2 => k_asm); (case k3 => k_asm); (case k4 => k_asm); (case k5 => k_asm); (case k6 => first | exact rfl | assumption); (case ka => ktr_room); (case kb => ktr_units); (case kc => first | assumption | omega); (case kd => first | assumption | omega); k_whole; intro h' tk' F' N')))
  k_with "call ref" => ((k_here; k_dflt (refine' means_K ?k1 ?k2 ?k3 ?k4 ?k5 ?k6 ?k7 ?k71 ?k72 ?k73 ?k8 ?k9 ?ka ?kb ?kc ?kd ?ke ?_; (case k1 => k_asm); (case k2 => k_asm); (case k3 => k_asm); (case k4 => k_asm); (case k5 => k_asm); (case k6 => first | exact rfl | assumption); (case k71 => k_mem); (case k72 => k_mem); (case k73 => first | assumption | k_get); (case k7 => k_mem); (case k8 => k_asm); (case k9 => k_asm); (case ka => ktr_room); (case kb => ktr_units); (case kc => first | assumption | omega | exact (hkl _ (by assumption)).1); (case kd => first | assumption | omega | exact (hkl _ (by assumption)).2); (case ke => first | assumption | exact allStr_nil); k_whole; intro h' tk' F' N')))
  k_with "getAttr ref" => ((k_here; k_dflt (refine' get_own ?F ?X ?I ?g ?h ?a ?n ?l ?v ?_; (case F => k_asm); (case X => k_asm); (case I => k_inst); (case g => k_is); (case h => k_is); (case a => k_is); (case n => k_is); (case l => assumption); (case v => k_handed); k_whole)))
  k_with "exec Assign cons ListComp" => ((k_here; k_dflt (refine LCt.Assign_ListComp_T (F₀ := by k_asm) (by rfl) (by with_unfolding_all rfl) (by with_unfolding_all rfl) (by decide) (by rfl) (by decide) (by rfl) (by rfl) (by rfl) ?_)))
  k_with "eval ListComp" => ((k_here; k_dflt (refine LCt.ListComp_T (F₀ := by k_asm) (by with_unfolding_all rfl) (by decide) (by rfl) (by decide) (by rfl) ?_)))
  k_with "compareOp In str ref" => ((k_here; k_dflt (refine kda_in (knd := PySem.strKind _ _) (by k_asm) (by k_mem) (by k_asm) (by k_asm) (strKind_is _ _ _ _) ((valueAt _ _).isSome) (by rfl) ?_)))
  k_with "subscriptTail" => ((k_here; (with_reducible show wpAny _ _ (subscriptTail _ _ (Value.ref _) (Value.str _ _)) _ _ _); (obtain ⟨v9, hv9⟩ := Option.isSome_iff_exists.mp (by assumption : (valueAt _ _).isSome = true)); k_dflt (refine kda_item (knd := PySem.strKind _ _) (by k_asm) (by k_mem) (by k_asm) (strKind_is _ _ _ _) hv9 ?_)))
  k_with "call type:dict" => ((k_here; (with_reducible show wpAny _ _ (call (Value.type "dict") [Value.ref _]) _ _ _); k_dflt (refine' dict_pairs_K ?kh ?k1 ?k2 ?k3 ?k4 ?k5 ?k6 ?_; (case kh => exact rfl); (case k1 => k_asm); (case k2 => k_asm); (case k3 => exact modules_low (Top.nolimit (by k_asm))); (case k4 => k_mem); (case k5 => assumption); (case k6 => omega); k_whole; intro d' o' h' tk' F' N' l1 lo' hd')))
  k_with "call type:list" => ((k_here; (with_reducible show wpAny _ _ (call (Value.type "list") [Value.ref _]) _ _ _); k_dflt (refine' list_items_K ?kh ?k1 ?k2 ?k3 ?k4 ?k5 ?k6 ?_; (case kh => exact rfl); (case k1 => k_asm); (case k2 => k_asm); (case k3 => k_mem); (case k4 => k_mem); (case k5 => k_asm); (case k6 => omega); k_whole; intro lS its9 c9 extra9 h' tk' F' N' hP9)))
  k_with "call type:dict" => ((k_here; (with_reducible show wpAny _ _ (call (Value.type "dict") [Value.ref _]) _ _ _); k_dflt (refine' dict_pairs_drop ?kh ?k1 ?k2 ?k3 ?k4 ?k5 ?k6 ?_; (case kh => exact rfl); (case k1 => k_asm); (case k2 => k_asm); (case k3 => exact modules_low (Top.nolimit (by k_asm))); (case k4 => exact rfl); (case k5 => assumption); (case k6 => omega); k_whole; intro dK oK h' tk' F' N' lK loK hdK; (try simp only [AllLt, and_true] at lK))))
  k_with "call ref" => ((k_here; k_dflt (refine' take_F ?k1 ?k2 ?k3 ?k4 ?k5 ?k6 ?k7 ?k8 ?k9 ?ka ?kb ?kc ?kd ?ke ?kf ?kg ?kh ?_; (case k1 => k_asm); (case k2 => k_asm); (case k3 => k_asm); (case k4 => k_asm); (case k5 => k_asm); (case k6 => first | exact rfl | assumption); (case k7 => k_updF); (case k8 => k_mem); (case k9 => assumption); (case ka => omega); (case kb => omega); (case kc => decide); (case kd => decide); (case ke => omega); (case kf => ktr_room); (case kg => ktr_units); (case kh => assumption); k_whole; intro rr tr tp h' tk' hr0 hr1 F' N'; (try dsimp only at N'))))
  k_with "call ref" => ((k_here; k_dflt (refine' own_K ?k1 ?k2 ?k3 ?k4 ?k5 ?k6 ?k7 ?k8 ?k9 ?ka ?kb ?kc ?kd ?ke ?_; (case k1 => k_asm); (case k2 => k_asm); (case k3 => k_asm); (case k4 => k_asm); (case k5 => k_asm); (case k6 => first | exact rfl | assumption); (case k7 => k_mem); (case k8 => k_asm); (case k9 => k_asm); (case ka => ktr_room); (case kb => ktr_units); (case kc => first | assumption | omega | decide); (case kd => first | assumption | omega | decide); (case ke => first | assumption | exact allStr_nil); k_whole; intro qo to h' tk' F' N' l1; (try simp only [AllLt, and_true] at l1))))
  k_with "cj" => (with_reducible (first | assumption | exact And.right (by first | assumption | exact And.right (by first | assumption | exact And.right (by first | assumption | exact And.right (by first | assumption | exact And.right (by first | assumption | exact And.right (by first | assumption | exact And.right (by first | assumption | exact And.right (by first | assumption | exact And.right (by first | assumption | exact And.right (by first | assumption | exact And.right (by first | assumption | exact And.right (by first | assumption | exact And.right (by first | assumption | exact And.right (by first | assumption | exact And.right (by first | assumption | exact And.right (by first | assumption | exact And.right (by first | assumption | exact And.right (by first | assumption | exact And.right (by first | assumption | exact And.right (by first | assumption | exact And.right (by first | assumption | exact And.right (by first | assumption | exact And.right (by first | assumption | exact And.right (by first | assumption | exact And.right (by first | assumption | exact And.right (by assumption))))))))))))))))))))))))))))
  k_with "ne" => (first | exact Nat.ne_of_gt (And.left (by k_extra "cj")) | exact Nat.ne_of_lt (And.left (by k_extra "cj")) | exact Nat.ne_of_gt (by with_reducible assumption) | exact Nat.ne_of_lt (by with_reducible assumption) | exact Nat.ne_of_gt (by k_extra "cj") | exact Nat.ne_of_lt (by k_extra "cj") | (refine neN ?_; (try dsimp only); omega))
  k_with "all" => (first | exact List.forall_mem_nil _ | (refine' List.forall_mem_cons.mpr ⟨?a, ?b⟩; (case a => first | exact Nat.ne_of_lt (And.left (by k_extra "cj")) | k_ne); (case b => k_all)) | assumption | exact allLt_ne (by k_extra "cj") | exact gt_ne (by assumption) (by first | assumption | omega) | fail "k_all")
  k_with "call ref" => ((k_here; k_dflt (refine' own3_K ?k1 ?k2 ?k3 ?k4 ?k5 ?k6 ?k7 ?k8 ?k9 ?ka ?kb ?kc ?kd ?ke ?_ ?_ ?_; (case k1 => k_asm); (case k2 => k_asm); (case k3 => k_asm); (case k4 => k_asm); (case k5 => k_asm); (case k6 => first | exact rfl | assumption); (case k7 => k_mem); (case k8 => k_asm); (case k9 => k_asm); (case ka => ktr_room); (case kb => ktr_units); (case kc => first | assumption | omega | decide); (case kd => first | assumption | omega | decide); (case ke => first | assumption | exact K3.nil); k_whole; all_goals (intro qo to h' tk' eO9 F' N' l1; (try simp only [AllLt, and_true] at l1)))))
  k_with "eval Dict" => ((k_here; k_dflt (first
        | (refine' kdn_str ?q ?F ?N ?b ?a ?l ?e ?n ?_; (case q => rfl); (case F => k_asm); (case N => first | k_asm | exact News.nil); (case b => exact Top.nolimit (by k_asm)); (case a => rfl); (case l => rfl); (case e => exact List.cons_ne_nil _ _); (case n => exact Nat.le_of_ble_eq_true rfl))
        | (refine' kdn_int ?q ?F ?N ?b ?a ?l ?e ?n ?_; (case q => rfl); (case F => k_asm); (case N => first | k_asm | exact News.nil); (case b => exact Top.nolimit (by k_asm)); (case a => rfl); (case l => rfl); (case e => exact List.cons_ne_nil _ _); (case n => exact Nat.le_of_ble_eq_true rfl))); intro d' h' o' F' N' l1 lo' hd'; (try k_lt l1)))
  k_with "setItem ref str" => ((k_here; k_dflt (refine' kda_set (knd := PySem.strKind _ _) ?F ?N ?U ?d (strKind_is _ _ _ _) ?z ?_; (case F => k_asm); (case N => k_asm); (case U => k_updF); (case d => assumption); (case z => rw [sizeLine_eq]; omega)); intro h' o' F' N' hdS'; (try dsimp only at N')))
  k_with "my sub" => (((repeat (refine List.forall_mem_cons.mpr ⟨by k_mem, ?_⟩)); first | exact List.forall_mem_nil _ | (intro p hp; repeat (first | exact hp | refine List.Mem.tail _ ?_))))
  k_with "execs cons" => (first | (k_here; k_gentoks) | ((with_reducible refine wpAny_execs_cons ?_); try dsimp only))
  k_with "assignInOrder" => ((dsimp only; walk_at "assignInOrder"))
  k_with "enter" => (first
        | (refine' code_def ?k1 ?k2 ?k3 ?k4 ?k5 ?kA ?kF ?kK ?k6 ?k7 ?k8 ?k9 ?kB ?_ ?c2 ?c3 ?c4 ?c5; (case kA => exact rfl); (case kF => exact rfl); (case kK => first | exact rfl | assumption); (case k1 => k_asm); (case k2 => k_asm); (case k3 => k_asm); (case k4 => k_asm); (case k5 => k_asm); (case k6 => k_is); (case k7 => k_is); (case k8 => ktr_room); (case k9 => first | exact BindsTo.of_eq rfl | exact binds_K (by k_in) rfl (by k_is) rfl rfl rfl | fail "k_enter: no rule for these arguments"); (case c5 => decide); (case kB => exact locs rfl); (case c2 => exact rfl); (case c3 => exact rfl); (case c4 => exact rfl); k_whole; intro g' L' h' FG' F' N' B' X' T'; (try dsimp only); (try k_lift B'); (try k_fold)))
  k_with "call ref" => ((k_here; (with_reducible show wpAny _ _ (call (Value.ref 160) _) _ _ _); k_dflt (refine' world_K (N := news_sub (by assumption) ?kN) ?k1 ?k2 ?k3 ?k5 ?k6 ?k7 ?k8 ?k9 ?ka ?kb ?kc ?kd ?ke ?kf ?kg ?kh ?ki ?_; (case k1 => k_asm); (case k2 => k_asm); (case k3 => k_asm); (case kN => walk_at "my sub"); (case k5 => k_asm); (case k6 => first | exact rfl | assumption); (case k7 => assumption); (case k8 => omega); (case k9 => omega); (case ka => omega); (case kb => omega); (case kc => omega); (case kd => assumption); (case ke => assumption); (case kf => assumption); (case kg => omega); (case kh => ktr_room); (case ki => ktr_units); k_whole; intro xA dx nA aA kA fA ouA inA fiA opA feA daA trA coA oN oA oK kvsN kvsA kW es w1 w2 w3 w4 w5 w6 w7 w8 w9 tp rest h' tk' FW NW kpW hkW loW hrW lN lA' lK hNd hNo hNl hAd hAo hAl hKd hSt hA hEl)))
  k_with "call type:list" => ((k_here; (with_reducible show wpAny _ _ (call (Value.type "list") [Value.ref _]) _ _ _); k_dflt (refine' list_keys_K ?kh ?k1 ?k2 ?k3 ?k4 ?k5 ?k6 ?_; (case kh => exact rfl); (case k1 => k_asm); (case k2 => k_asm); (case k3 => k_mem); (case k4 => assumption); (case k5 => k_asm); (case k6 => omega); k_whole; intro lN2 cN2 vsN h' tk' hvN F' N' lNN; (try simp only [AllLt, and_true] at lNN))))
  k_with "binaryOp Add ref ref" => ((k_here; (with_reducible show wpAny _ _ (binaryOp _ (Value.ref _) (Value.ref _)) _ _ _); k_dflt (refine' add_lists_K ?F ?N ?a ?b ?z ?_; (case F => k_asm); (case N => k_asm); (case a => k_mem); (case b => k_mem); (case z => walk_at "my len")); intro D' h' F' N' l1; (try simp only [AllLt, and_true] at l1)))
  k_with "my len" => (((have hLn9 := strsAre_len hvN); (simp only [List.length_append, List.length_map, List.length_cons, List.length_nil] at *); omega))
  k_with "exec Assign cons ListComp" => ((k_here; (with_reducible show wpAny _ _ (exec (.Assign _ (.ListComp _ [⟨_, .Attribute _ _ _, _, _⟩] _ _) _) _) _ _ _); k_dflt (refine Assign_ListComp_TD (knd := PySem.strKind _ _) (by k_asm) (by rfl) (by with_unfolding_all rfl) (by with_unfolding_all rfl) (by decide) (by rfl) (by decide) (by rfl) (by rfl) (by rfl) ?_)))
  k_with "compareOp In str ref" => ((k_here; k_dflt (refine in_words_K (by k_asm) (by k_mem) hWd ?_)))
  k_with "getItem ref str" => ((k_here; k_dflt (refine kdt_getItem (knd := PySem.strKind _ _) (by k_asm) (by k_mem) (by k_asm) (strKind_is _ _ _ _) (by assumption) ?_)))
  k_with "getAttr ref" => ((k_here; k_dflt (refine' get_attr_K ?k1 ?k2 ?k3 ?h1 ?h2 ?k4 ?k5 ?k6 ?k7 ?hA ?hl ?k9 ?_; (case k1 => k_asm); (case k2 => k_asm); (case k3 => k_asm); (case h1 => k_mem); (case h2 => k_mem); (case k4 => k_is); (case k5 => k_is); (case k6 => k_is); (case k7 => k_is); (case hA => assumption); (case hl => with_unfolding_all rfl); (case k9 => k_handed); k_whole)))
  k_with "setAttr ref" => ((k_here; k_dflt (refine' set_attr_K ?k1 ?k2 ?k3 ?h1 ?h2 ?k4 ?k5 ?k6 ?k7 ?U ?hA ?hl ?z ?_; (case k1 => k_asm); (case k2 => k_asm); (case k3 => k_asm); (case h1 => k_mem); (case h2 => k_mem); (case k4 => k_is); (case k5 => k_is); (case k6 => k_is); (case k7 => k_is); (case U => k_updF); (case hA => assumption); (case hl => with_unfolding_all rfl); (case z => omega); k_whole; intro h' es' F' N' hA' hz'; (try dsimp only at N'))))
  k_with "my sub0" => ((intro p hp; repeat (first | exact hp | refine List.Mem.tail _ ?_)))
  k_with "my dict" => (((case kh => exact rfl); (case k1 => k_asm); (case k2 => k_asm); (case k3 => exact modules_low (Top.nolimit (by k_asm))); (case k5 => walk_at "my sub0"); (case k4 => k_mem); (case k6 => omega); k_whole; intro d' o' h' tk' F' N' l1 lo' hd'))
  k_with "call type:dict" => ((k_here; (with_reducible show wpAny _ _ (call (Value.type "dict") [Value.ref _]) _ _ _); first
        | (refine' dict_pairs_K ?kh ?k1 ?k2 ?k3 ?k4 (pairsIn_sub hpsE5 ?k5) ?k6 ?_; walk_at "my dict")
        | (refine' dict_pairs_K ?kh ?k1 ?k2 ?k3 ?k4 (pairsIn_sub hpsF ?k5) ?k6 ?_; walk_at "my dict")))
  k_with "compareOp NotEq str str" => (refine nes_same ?_)
  k_with "compareOp NotEq int int" => (refine nei_same ?_)
  k_with "exec For Name Name cons nil" => ((k_here; (rename Fr _ _ _ _ => lF'); (with_unfolding_all refine' For_turns lF' ?_; k_whole)))
  k_with "my go" => (repeat' ((fail_if_success with_reducible refine strRest_at ?_); (fail_if_success with_reducible refine itemsRest_at ?_); (fail_if_success with_reducible show wpAny _ _ (call (Value.ref 96) _) _ _ _); (fail_if_success with_reducible show wpAny _ _ (call (Value.ref 132) _) _ _ _); (fail_if_success with_reducible show wpAny _ _ (call (Value.ref 139) _) _ _ _); (fail_if_success with_reducible show wpAny _ _ (call (Value.ref 167) _) _ _ _); (fail_if_success with_reducible show wpAny _ _ (call (Value.ref 174) _) _ _ _); (fail_if_success with_reducible show wpAny _ _ (call (Value.ref 181) _) _ _ _); (fail_if_success with_reducible show wpAny _ _ (call (Value.ref 65) _) _ _ _); (fail_if_success with_reducible show wpAny _ _ (compareOp CmpOp.NotEq (Value.ref _) (Value.ref _)) _ _ _); (fail_if_success with_reducible show wpAny _ _ (call (Value.builtin "repr") _) _ _ _); first | (k_unfold; (try dsimp only)) | walk1 | (dsimp only; walk1) | fail "no step"))
  trivial

noncomputable def lf8_pk : Pk1 lf7_pk.P1 := by
  apply Pk1.mk
  intro H1_9
  intro w; unhygienic intros
  have hdl : (dueP kvsL wsC kvsN).length ≤ 8 := Nat.le_trans (List.length_filter_le _ _) hNl
  have hgl : gpG.length ≤ 4 := by
    have := congrArg List.length hgkG
    rw [List.length_map] at this
    rw [this]
    unfold gridK
    rw [List.length_map]
    exact Nat.le_trans (List.length_filter_le _ _) hAl
  walk_at "my go"
  (rename_i lf9_rt1 lf9_rt2 _ _; revert w s₀ s₁ mg mb fa o pm doc a1 a2 a3 a4 ns a6 a7 sA wv a9 h1 tk1 o4 o3 o2 o1 D_1 ws_1 h_1 l_1 h_2 d_1 h_3 o_1 D_2 h_4 h_5 h_6 o_2 h_7 o_3 lf1_rt1 i_1 ns' u h tkz1 oL kvsL k t1 m0 xA dx nA aA kA fA ouA inA fiA opA feA daA trA coA oN oA oK kvsN kvsA kW es w1 w2 w3 w4 w5 w6 w7 w8 w9 tp rest hz1 tqz1 hz2 oz1 tkz2 lN2 cN2 vsN hz3 lf7_rt1 lz1 hz4 Dz1 hz5 hz6 lf4_rt1 lz2_1 hz7 D' lf7_rt2 nmV alV g0 ysC Dw hC tkC kC tC wsC hz8 oz4 lf7_rt3 g1 ysD Dd hD2 tkD exD rest4 g2 ysG Dg hG tkG exG gpG rest5 q9 lf7_rt4 lf7_rt5 lf8_rt1 u9 lf8_rt2 lf7_rt6 tk q1 q2 q3 q4 q5 q6 p1 p2 p3 p4 x1 x2 x3 x4 x5 es2 lf9_rt1 lf9_rt2 d' o' h' tk'; exact (no_implicit_lambda% H1_9.out))


noncomputable def lf9_pk : Pk1 lf8_pk.P1 := by
  apply Pk1.mk
  intro H1_9
  intro w; unhygienic intros
  refine' ne_names_K (a := q1) (kvsL := kvsL) (kvsN := kvsN) (ws := wsC) ?N ?m1 ?m2 dp1 hd' hNo5 hNd2 ls4.1 lo' ?u ?_
  case N => k_asm
  case m1 => k_mem
  case m2 => k_mem
  case u => k_units
  walk_at "my go"
  refine' ne_arrs_K (a := q2) (kvsL := kvsL) (kvsA := kvsA) (ws := wsC) (gp := gpG) ?N ?m1 ?m2 dp2 hd' hAo5 ?sb (words_in hNo5 hmemC) (nodup_of hAd) hgrF hgkG ls4.2.1 lo' ?u ?u2 ?_
  case N => k_asm
  case m1 => k_mem
  case m2 => k_mem
  case sb => walk_at "my sub0"
  case u => k_units
  case u2 => k_units
  walk_at "my go"
  (rename_i lf10_rt1 lf10_rt2 lf10_rt3 lf10_rt4 _ _; revert w s₀ s₁ mg mb fa o pm doc a1 a2 a3 a4 ns a6 a7 sA wv a9 h1 tk1 o4 o3 o2 o1 D_1 ws_1 h_1 l_1 h_2 d_1 h_3 o_1 D_2 h_4 h_5 h_6 o_2 h_7 o_3 lf1_rt1 i_1 ns' u h tkz1 oL kvsL k t1 m0 xA dx nA aA kA fA ouA inA fiA opA feA daA trA coA oN oA oK kvsN kvsA kW es w1 w2 w3 w4 w5 w6 w7 w8 w9 tp rest hz1 tqz1 hz2 oz1 tkz2 lN2 cN2 vsN hz3 lf7_rt1 lz1 hz4 Dz1 hz5 hz6 lf4_rt1 lz2_1 hz7 D' lf7_rt2 nmV alV g0 ysC Dw hC tkC kC tC wsC hz8 oz4 lf7_rt3 g1 ysD Dd hD2 tkD exD rest4 g2 ysG Dg hG tkG exG gpG rest5 q9 lf7_rt4 lf7_rt5 lf8_rt1 u9 lf8_rt2 lf7_rt6 tk q1 q2 q3 q4 q5 q6 p1 p2 p3 p4 x1 x2 x3 x4 x5 es2 lf9_rt1 lf9_rt2 lf10_rt1 lf10_rt2 lf10_rt3 lf10_rt4 d' o' h' tk'; exact (no_implicit_lambda% H1_9.out))


noncomputable def lf10_pk : Pk1 lf9_pk.P1 := by
  apply Pk1.mk
  intro H1_9
  intro w; unhygienic intros
  have hno : ∀ p ∈ rest5, p.1 ≠ sysModules := fun p hp => by
    have h1 := hr5 p hp
    exact sys_off (by omega)
  refine' stays_K ?k1 ?k2 ?k3 ?k4 ?k5 ?k6 ?m1 ?m2 ?hA ?ka ?kb ?_
  case k1 => k_asm
  case k2 => k_asm
  case k3 => k_asm
  case k4 => k_asm
  case k5 => k_asm
  case k6 => first | exact rfl | assumption
  case m1 => k_mem
  case m2 => k_mem
  case hA => exact hA2.sub (by repeat (first | exact List.forall_mem_nil _ | refine List.forall_mem_cons.mpr ⟨by with_unfolding_all rfl, ?_⟩))
  case ka => ktr_room
  case kb => ktr_units
  intro q8 h' tk' F' N' l1
  walk_at "my go"
  refine' repr_stays (rest := rest5) ?F ?N ?q hSt5 ?s hno ?n ?g ?u ?_
  case F => k_asm
  case N => k_asm
  case q => k_mem
  case s => walk_at "my sub0"
  case n => exact sys_off (by simp only [AllLt] at l1; omega)
  case g => exact rfl
  case u => k_units
  intro h' u8 tk' F' N'
  walk_at "my go"
  (rename_i lf11_rt1 lf11_rt2 lf11_rt3 lf11_rt4 _ _; revert w s₀ s₁ mg mb fa o pm doc a1 a2 a3 a4 ns a6 a7 sA wv a9 h1 tk1 o4 o3 o2 o1 D_1 ws_1 h_1 l_1 h_2 d_1 h_3 o_1 D_2 h_4 h_5 h_6 o_2 h_7 o_3 lf1_rt1 i_1 ns' u h tkz1 oL kvsL k t1 m0 xA dx nA aA kA fA ouA inA fiA opA feA daA trA coA oN oA oK kvsN kvsA kW es w1 w2 w3 w4 w5 w6 w7 w8 w9 tp rest hz1 tqz1 hz2 oz1 tkz2 lN2 cN2 vsN hz3 lf7_rt1 lz1 hz4 Dz1 hz5 hz6 lf4_rt1 lz2_1 hz7 D' lf7_rt2 nmV alV g0 ysC Dw hC tkC kC tC wsC hz8 oz4 lf7_rt3 g1 ysD Dd hD2 tkD exD rest4 g2 ysG Dg hG tkG exG gpG rest5 q9 lf7_rt4 lf7_rt5 lf8_rt1 u9 lf8_rt2 lf7_rt6 tk q1 q2 q3 q4 q5 q6 p1 p2 p3 p4 x1 x2 x3 x4 x5 es2 lf9_rt1 lf9_rt2 lf10_rt1 lf10_rt2 lf10_rt3 lf10_rt4 d' o' lf11_rt1 lf11_rt2 q8 lf11_rt3 lf11_rt4 h' u8 tk'; exact (no_implicit_lambda% H1_9.out))


noncomputable def lf11_pk : Pk1 lf10_pk.P1 := by
  apply Pk1.mk
  intro H1_9
  intro w; unhygienic intros
  rename News _ _ _ _ => N9
  have N7 := news_sub (small := (q1, p1) :: (q2, p2) :: (q3, p3) :: (q4, p4) :: (q5, W.listOf #[] 0) :: (q6, W.listOf #[] 0) :: (xA, instObj 114 dx) :: (dx, dictOf es2 28) :: (Dd, LCg.lst ysD) :: (Dz1, W.listOf nmV.toArray 0) :: (l_1, W.listOf #[Value.int kC tC, Value.ref D_1] 0) :: (D_1, W.listOf ws_1.toArray 0) :: (s₁.heap.objs.size + 1 + 1 + 1 + 1, oz4) :: (s₁.heap.objs.size + 1 + 1 + 1, oz1) :: (s₁.heap.objs.size + 1 + 1, o_3) :: (s₁.heap.objs.size + 1, o_2) :: rest5) N9 (by walk_at "my sub")
  clear N9
  refine' goes_K ?k1 ?k2 ?k3 ?k4 ?k5 ?k6 ?m1 ?m2 ?hA ?ka ?kb ?_
  case k1 => k_asm
  case k2 => k_asm
  case k3 => k_asm
  case k4 => k_asm
  case k5 => k_asm
  case k6 => first | exact rfl | assumption
  case m1 => k_mem
  case m2 => k_mem
  case hA => exact hA2.sub (by repeat (first | exact List.forall_mem_nil _ | refine List.forall_mem_cons.mpr ⟨by with_unfolding_all rfl, ?_⟩))
  case ka => ktr_room
  case kb => ktr_units
  intro q7 h' tk' F' N' l1
  walk_at "my go"
  rename_i l1y1 FFy1 NNy1 hy1 tqy1 dy1 hy2 oy1 loy1 hsy1 fsy1 hiy1 fiy1 l1y2 dy2 hy3 oy2 loy2 hsy2 fsy2 hiy2 fiy2 l1y3 ly1 hy4 l1y4 ly2 hy5 l1y5 ly3 hy6 FFy2 NNy2 l1y6
  have hneA : @Ne Nat q3 dy1 := by omega
  have hneB : @Ne Nat q4 dy2 := by omega
  refine' ne_lists_K (a := q7) (b := ly3) ?N ?m1 ?m2 ?e ?u ?_
  case N => k_asm
  case m1 => k_mem
  case m2 => k_mem
  case u => k_units
  case e =>
    refine .cons (eqDict (by k_asm) (by k_mem) (by k_mem) dp3 hsy1 ls4.2.2.1 loy1 hneA (by k_units)) ?_
    refine .cons (eqDict (by k_asm) (by k_mem) (by k_mem) dp4 hsy2 ls4.2.2.2 loy2 hneB (by k_units)) ?_
    refine .cons (eqNil (by k_asm) (by k_mem) (by k_mem) (by k_units)) ?_
    refine .cons (eqInt _ _ _) (.cons (eqInt _ _ _) (.cons (eqInt _ _ _) (.cons (SeqAt.EqAt.same _) (.cons (eqInt _ _ _) (.cons ?_ ?_)))))
    · rw [show Str.ofString "" = Str.empty from rfl]; exact eqStr _ _ _
    refine .cons (eqNil (by k_asm) (by k_mem) (by k_mem) (by k_units)) .nil
  have N8 := news_sub (small := (q1, p1) :: (q2, p2) :: (q3, p3) :: (xA, instObj 114 dx) :: (dx, dictOf es2 28) :: (Dd, LCg.lst ysD) :: (Dz1, W.listOf nmV.toArray 0) :: (l_1, W.listOf #[Value.int kC tC, Value.ref D_1] 0) :: (D_1, W.listOf ws_1.toArray 0) :: (s₁.heap.objs.size + 1 + 1 + 1 + 1, oz4) :: (s₁.heap.objs.size + 1 + 1 + 1, oz1) :: (s₁.heap.objs.size + 1 + 1, o_3) :: (s₁.heap.objs.size + 1, o_2) :: rest5) NNy2 (by walk_at "my sub")
  clear NNy2 N7 l1y1 l1y2 l1y3 l1y4 NNy1 FFy1
  walk_at "my go"
  (rename_i lf12_rt1; revert w s₀ s₁ mg mb fa o pm doc a1 a2 a3 a4 ns a6 a7 sA wv a9 h1 tk1 o4 o3 o2 o1 D_1 ws_1 h_1 l_1 h_2 d_1 h_3 o_1 D_2 h_4 h_5 h_6 o_2 h_7 o_3 lf1_rt1 i_1 ns' u h tkz1 oL kvsL k t1 m0 xA dx nA aA kA fA ouA inA fiA opA feA daA trA coA oN oA oK kvsN kvsA kW es w1 w2 w3 w4 w5 w6 w7 w8 w9 tp rest hz1 tqz1 hz2 oz1 tkz2 lN2 cN2 vsN hz3 lf7_rt1 lz1 hz4 Dz1 hz5 hz6 lf4_rt1 lz2_1 hz7 D' lf7_rt2 nmV alV g0 ysC Dw hC tkC kC tC wsC hz8 oz4 lf7_rt3 g1 ysD Dd hD2 tkD exD rest4 g2 ysG Dg hG tkG exG gpG rest5 q9 lf7_rt4 lf7_rt5 lf8_rt1 u9 lf8_rt2 lf7_rt6 lf12_rt1 q1 q2 q3 q4 q5 q6 p1 p2 p3 p4 x1 x2 x3 x4 x5 es2 lf9_rt1 lf9_rt2 lf10_rt1 lf10_rt2 lf10_rt3 lf10_rt4 d' o' lf11_rt1 lf11_rt2 q8 lf11_rt3 lf11_rt4 hy1 u8 tqy1 q7 h' tk' dy1 hy2 oy1 fsy1 fiy1 dy2 hy3 oy2 fsy2 fiy2 ly1 hy4 ly2 hy5 ly3 hy6 tk iI; exact (no_implicit_lambda% H1_9.out))

theorem rows_19 : True := by
  k_with_none
  k_with "my enter" => ((refine wpAny_call ?_; k_dflt (refine' code_defG ?k1 ?k2 ?k3 ?k4 ?k5 ?kA ?kF ?kK ?k6 ?k7 ?k8 ?k9 ?kB ?_ ?c2 ?c3 ?c4 ?c5; (case kA => exact rfl); (case kF => exact rfl); (case kK => assumption); (case k1 => k_asm); (case k2 => k_asm); (case k3 => k_asm); (case k4 => k_asm); (case k5 => k_asm); (case k6 => k_is); (case k7 => k_is); (case k8 => ktr_room); (case k9 => exact BindsTo.of_eq rfl); (case c5 => decide); (case kB => exact locs rfl); (case c2 => exact rfl); (case c3 => exact rfl); (case c4 => exact rfl); k_whole; intro g' L' h' FG' F' N' B' X' T' kG'; (try dsimp only); (try k_lift B'); (try k_fold))))
  k_with "my enterC" => ((refine wpAny_call ?_; k_dflt (refine' code_defC ?k1 ?k2 ?k3 ?k4 ?k5 ?kA ?kF ?kK ?k6 ?k7 ?k8 ?k9 ?kB ?kD ?_ ?c2 ?c3 ?c4; (case kA => exact rfl); (case kF => exact rfl); (case kK => assumption); (case k1 => k_asm); (case k2 => k_asm); (case k3 => k_asm); (case k4 => k_asm); (case k5 => k_asm); (case k6 => k_is); (case k7 => k_is); (case k8 => ktr_room); (case k9 => exact BindsTo.of_eq rfl); (case kB => exact rfl); (case kD => decide +kernel); (case c2 => exact rfl); (case c3 => exact rfl); (case c4 => exact rfl); k_whole; intro g' L' h' tk' cells' FG' F' N' Y' B' X' T' l1; (try k_lt l1); (obtain ⟨oc, hE', d1⟩ := CellsAre.one Y'; subst hE'; clear Y'); (try simp only [List.cons_append, List.nil_append] at N'); (try dsimp only); (try k_lift B'); (try k_fold))))
  k_with "ite" => (first | with_reducible refine ite_tt ?_ | with_reducible refine ite_ff ?_)
  k_with "call ref" => ((k_here; k_dflt (refine' kind_K ?k1 ?k2 ?k3 ?k4 ?k5 ?k6 ?k7 ?k8 ?k9 ?ka ?kb ?kc ?kd ?ke ?_; (case k1 => k_asm); (case k2 => k_asm); (case k3 => k_asm); (case k4 => k_asm); (case k5 => k_asm); (case k6 => first | exact rfl | assumption); (case k7 => k_mem); (case k8 => k_asm); (case k9 => k_asm); (case ka => ktr_room); (case kb => ktr_units); (case kc => first | assumption | omega); (case kd => first | assumption | omega); (case ke => first | assumption | exact allStr_nil); k_whole; intro t' h' tk' F' N' cE')))
  k_with "call ref" => ((k_here; k_dflt (refine' isarr_K ?k1 ?k2 ?k3 ?k4 ?k5 ?k6 ?ka ?kb ?kc ?kd ?_; (case k1 => k_asm); (case k2 => k_asm); (case k3 => k_asm); (case k4 => k_asm); (case k5 => k_asm); (case k6 => first | exact rfl | assumption); (case ka => ktr_room); (case kb => ktr_units); (case kc => first | assumption | omega); (case kd => first | assumption | omega); k_whole; intro h' tk' F' N')))
  k_with "call ref" => ((k_here; k_dflt (refine' means_K ?k1 ?k2 ?k3 ?k4 ?k5 ?k6 ?k7 ?k71 ?k72 ?k73 ?k8 ?k9 ?ka ?kb ?kc ?kd ?ke ?_; (case k1 => k_asm); (case k2 => k_asm); (case k3 => k_asm); (case k4 => k_asm); (case k5 => k_asm); (case k6 => first | exact rfl | assumption); (case k71 => k_mem); (case k72 => k_mem); (case k73 => first | assumption | k_get); (case k7 => k_mem); (case k8 => k_asm); (case k9 => k_asm); (case ka => ktr_room); (case kb => ktr_units); (case kc => first | assumption | omega | exact (hkl _ (by assumption)).1); (case kd => first | assumption | omega | exact (hkl _ (by assumption)).2); (case ke => first | assumption | exact allStr_nil); k_whole; intro h' tk' F' N')))
  k_with "getAttr ref" => ((k_here; k_dflt (refine' get_own ?F ?X ?I ?g ?h ?a ?n ?l ?v ?_; (case F => k_asm); (case X => k_asm); (case I => k_inst); (case g => k_is); (case h => k_is); (case a => k_is); (case n => k_is); (case l => assumption); (case v => k_handed); k_whole)))
  k_with "exec Assign cons ListComp" => ((k_here; k_dflt (refine LCt.Assign_ListComp_T (F₀ := by k_asm) (by rfl) (by with_unfolding_all rfl) (by with_unfolding_all rfl) (by decide) (by rfl) (by decide) (by rfl) (by rfl) (by rfl) ?_)))
  k_with "eval ListComp" => ((k_here; k_dflt (refine LCt.ListComp_T (F₀ := by k_asm) (by with_unfolding_all rfl) (by decide) (by rfl) (by decide) (by rfl) ?_)))
  k_with "compareOp In str ref" => ((k_here; k_dflt (refine kda_in (knd := PySem.strKind _ _) (by k_asm) (by k_mem) (by k_asm) (by k_asm) (strKind_is _ _ _ _) ((valueAt _ _).isSome) (by rfl) ?_)))
  k_with "subscriptTail" => ((k_here; (with_reducible show wpAny _ _ (subscriptTail _ _ (Value.ref _) (Value.str _ _)) _ _ _); (obtain ⟨v9, hv9⟩ := Option.isSome_iff_exists.mp (by assumption : (valueAt _ _).isSome = true)); k_dflt (refine kda_item (knd := PySem.strKind _ _) (by k_asm) (by k_mem) (by k_asm) (strKind_is _ _ _ _) hv9 ?_)))
  k_with "call type:dict" => ((k_here; (with_reducible show wpAny _ _ (call (Value.type "dict") [Value.ref _]) _ _ _); k_dflt (refine' dict_pairs_K ?kh ?k1 ?k2 ?k3 ?k4 ?k5 ?k6 ?_; (case kh => exact rfl); (case k1 => k_asm); (case k2 => k_asm); (case k3 => exact modules_low (Top.nolimit (by k_asm))); (case k4 => k_mem); (case k5 => assumption); (case k6 => omega); k_whole; intro d' o' h' tk' F' N' l1 lo' hd')))
  k_with "call type:list" => ((k_here; (with_reducible show wpAny _ _ (call (Value.type "list") [Value.ref _]) _ _ _); k_dflt (refine' list_items_K ?kh ?k1 ?k2 ?k3 ?k4 ?k5 ?k6 ?_; (case kh => exact rfl); (case k1 => k_asm); (case k2 => k_asm); (case k3 => k_mem); (case k4 => k_mem); (case k5 => k_asm); (case k6 => omega); k_whole; intro lS its9 c9 extra9 h' tk' F' N' hP9)))
  k_with "call type:dict" => ((k_here; (with_reducible show wpAny _ _ (call (Value.type "dict") [Value.ref _]) _ _ _); k_dflt (refine' dict_pairs_drop ?kh ?k1 ?k2 ?k3 ?k4 ?k5 ?k6 ?_; (case kh => exact rfl); (case k1 => k_asm); (case k2 => k_asm); (case k3 => exact modules_low (Top.nolimit (by k_asm))); (case k4 => exact rfl); (case k5 => assumption); (case k6 => omega); k_whole; intro dK oK h' tk' F' N' lK loK hdK; (try simp only [AllLt, and_true] at lK))))
  k_with "call ref" => ((k_here; k_dflt (refine' take_F ?k1 ?k2 ?k3 ?k4 ?k5 ?k6 ?k7 ?k8 ?k9 ?ka ?kb ?kc ?kd ?ke ?kf ?kg ?kh ?_; (case k1 => k_asm); (case k2 => k_asm); (case k3 => k_asm); (case k4 => k_asm); (case k5 => k_asm); (case k6 => first | exact rfl | assumption); (case k7 => k_updF); (case k8 => k_mem); (case k9 => assumption); (case ka => omega); (case kb => omega); (case kc => decide); (case kd => decide); (case ke => omega); (case kf => ktr_room); (case kg => ktr_units); (case kh => assumption); k_whole; intro rr tr tp h' tk' hr0 hr1 F' N'; (try dsimp only at N'))))
  k_with "call ref" => ((k_here; k_dflt (refine' own_K ?k1 ?k2 ?k3 ?k4 ?k5 ?k6 ?k7 ?k8 ?k9 ?ka ?kb ?kc ?kd ?ke ?_; (case k1 => k_asm); (case k2 => k_asm); (case k3 => k_asm); (case k4 => k_asm); (case k5 => k_asm); (case k6 => first | exact rfl | assumption); (case k7 => k_mem); (case k8 => k_asm); (case k9 => k_asm); (case ka => ktr_room); (case kb => ktr_units); (case kc => first | assumption | omega | decide); (case kd => first | assumption | omega | decide); (case ke => first | assumption | exact allStr_nil); k_whole; intro qo to h' tk' F' N' l1; (try simp only [AllLt, and_true] at l1))))
  k_with "cj" => (with_reducible (first | assumption | exact And.right (by first | assumption | exact And.right (by first | assumption | exact And.right (by first | assumption | exact And.right (by first | assumption | exact And.right (by first | assumption | exact And.right (by first | assumption | exact And.right (by first | assumption | exact And.right (by first | assumption | exact And.right (by first | assumption | exact And.right (by first | assumption | exact And.right (by first | assumption | exact And.right (by first | assumption | exact And.right (by first | assumption | exact And.right (by first | assumption | exact And.right (by first | assumption | exact And.right (by first | assumption | exact And.right (by first | assumption | exact And.right (by first | assumption | exact And.right (by first | assumption | exact And.right (by first | assumption | exact And.right (by first | assumption | exact And.right (by first | assumption | exact And.right (by first | assumption | exact And.right (by first | assumption | exact And.right (by first | assumption | exact And.right (by assumption))))))))))))))))))))))))))))
  k_with "ne" => (first | exact Nat.ne_of_gt (And.left (by k_extra "cj")) | exact Nat.ne_of_lt (And.left (by k_extra "cj")) | exact Nat.ne_of_gt (by with_reducible assumption) | exact Nat.ne_of_lt (by with_reducible assumption) | exact Nat.ne_of_gt (by k_extra "cj") | exact Nat.ne_of_lt (by k_extra "cj") | (refine neN ?_; (try dsimp only); omega))
  k_with "all" => (first | exact List.forall_mem_nil _ | (refine' List.forall_mem_cons.mpr ⟨?a, ?b⟩; (case a => first | exact Nat.ne_of_lt (And.left (by k_extra "cj")) | k_ne); (case b => k_all)) | assumption | exact allLt_ne (by k_extra "cj") | exact gt_ne (by assumption) (by first | assumption | omega) | fail "k_all")
  k_with "call ref" => ((k_here; k_dflt (refine' own3_K ?k1 ?k2 ?k3 ?k4 ?k5 ?k6 ?k7 ?k8 ?k9 ?ka ?kb ?kc ?kd ?ke ?_ ?_ ?_; (case k1 => k_asm); (case k2 => k_asm); (case k3 => k_asm); (case k4 => k_asm); (case k5 => k_asm); (case k6 => first | exact rfl | assumption); (case k7 => k_mem); (case k8 => k_asm); (case k9 => k_asm); (case ka => ktr_room); (case kb => ktr_units); (case kc => first | assumption | omega | decide); (case kd => first | assumption | omega | decide); (case ke => first | assumption | exact K3.nil); k_whole; all_goals (intro qo to h' tk' eO9 F' N' l1; (try simp only [AllLt, and_true] at l1)))))
  k_with "eval Dict" => ((k_here; k_dflt (first
        | (refine' kdn_str ?q ?F ?N ?b ?a ?l ?e ?n ?_; (case q => rfl); (case F => k_asm); (case N => first | k_asm | exact News.nil); (case b => exact Top.nolimit (by k_asm)); (case a => rfl); (case l => rfl); (case e => exact List.cons_ne_nil _ _); (case n => exact Nat.le_of_ble_eq_true rfl))
        | (refine' kdn_int ?q ?F ?N ?b ?a ?l ?e ?n ?_; (case q => rfl); (case F => k_asm); (case N => first | k_asm | exact News.nil); (case b => exact Top.nolimit (by k_asm)); (case a => rfl); (case l => rfl); (case e => exact List.cons_ne_nil _ _); (case n => exact Nat.le_of_ble_eq_true rfl))); intro d' h' o' F' N' l1 lo' hd'; (try k_lt l1)))
  k_with "setItem ref str" => ((k_here; k_dflt (refine' kda_set (knd := PySem.strKind _ _) ?F ?N ?U ?d (strKind_is _ _ _ _) ?z ?_; (case F => k_asm); (case N => k_asm); (case U => k_updF); (case d => assumption); (case z => rw [sizeLine_eq]; omega)); intro h' o' F' N' hdS'; (try dsimp only at N')))
  k_with "my sub" => (((repeat (refine List.forall_mem_cons.mpr ⟨by k_mem, ?_⟩)); first | exact List.forall_mem_nil _ | (intro p hp; repeat (first | exact hp | refine List.Mem.tail _ ?_))))
  k_with "execs cons" => (first | (k_here; k_gentoks) | ((with_reducible refine wpAny_execs_cons ?_); try dsimp only))
  k_with "assignInOrder" => ((dsimp only; walk_at "assignInOrder"))
  k_with "enter" => (first
        | (refine' code_def ?k1 ?k2 ?k3 ?k4 ?k5 ?kA ?kF ?kK ?k6 ?k7 ?k8 ?k9 ?kB ?_ ?c2 ?c3 ?c4 ?c5; (case kA => exact rfl); (case kF => exact rfl); (case kK => first | exact rfl | assumption); (case k1 => k_asm); (case k2 => k_asm); (case k3 => k_asm); (case k4 => k_asm); (case k5 => k_asm); (case k6 => k_is); (case k7 => k_is); (case k8 => ktr_room); (case k9 => first | exact BindsTo.of_eq rfl | exact binds_K (by k_in) rfl (by k_is) rfl rfl rfl | fail "k_enter: no rule for these arguments"); (case c5 => decide); (case kB => exact locs rfl); (case c2 => exact rfl); (case c3 => exact rfl); (case c4 => exact rfl); k_whole; intro g' L' h' FG' F' N' B' X' T'; (try dsimp only); (try k_lift B'); (try k_fold)))
  k_with "call ref" => ((k_here; (with_reducible show wpAny _ _ (call (Value.ref 160) _) _ _ _); k_dflt (refine' world_K (N := news_sub (by assumption) ?kN) ?k1 ?k2 ?k3 ?k5 ?k6 ?k7 ?k8 ?k9 ?ka ?kb ?kc ?kd ?ke ?kf ?kg ?kh ?ki ?_; (case k1 => k_asm); (case k2 => k_asm); (case k3 => k_asm); (case kN => walk_at "my sub"); (case k5 => k_asm); (case k6 => first | exact rfl | assumption); (case k7 => assumption); (case k8 => omega); (case k9 => omega); (case ka => omega); (case kb => omega); (case kc => omega); (case kd => assumption); (case ke => assumption); (case kf => assumption); (case kg => omega); (case kh => ktr_room); (case ki => ktr_units); k_whole; intro xA dx nA aA kA fA ouA inA fiA opA feA daA trA coA oN oA oK kvsN kvsA kW es w1 w2 w3 w4 w5 w6 w7 w8 w9 tp rest h' tk' FW NW kpW hkW loW hrW lN lA' lK hNd hNo hNl hAd hAo hAl hKd hSt hA hEl)))
  k_with "call type:list" => ((k_here; (with_reducible show wpAny _ _ (call (Value.type "list") [Value.ref _]) _ _ _); k_dflt (refine' list_keys_K ?kh ?k1 ?k2 ?k3 ?k4 ?k5 ?k6 ?_; (case kh => exact rfl); (case k1 => k_asm); (case k2 => k_asm); (case k3 => k_mem); (case k4 => assumption); (case k5 => k_asm); (case k6 => omega); k_whole; intro lN2 cN2 vsN h' tk' hvN F' N' lNN; (try simp only [AllLt, and_true] at lNN))))
  k_with "binaryOp Add ref ref" => ((k_here; (with_reducible show wpAny _ _ (binaryOp _ (Value.ref _) (Value.ref _)) _ _ _); k_dflt (refine' add_lists_K ?F ?N ?a ?b ?z ?_; (case F => k_asm); (case N => k_asm); (case a => k_mem); (case b => k_mem); (case z => walk_at "my len")); intro D' h' F' N' l1; (try simp only [AllLt, and_true] at l1)))
  k_with "my len" => (((have hLn9 := strsAre_len hvN); (simp only [List.length_append, List.length_map, List.length_cons, List.length_nil] at *); omega))
  k_with "exec Assign cons ListComp" => ((k_here; (with_reducible show wpAny _ _ (exec (.Assign _ (.ListComp _ [⟨_, .Attribute _ _ _, _, _⟩] _ _) _) _) _ _ _); k_dflt (refine Assign_ListComp_TD (knd := PySem.strKind _ _) (by k_asm) (by rfl) (by with_unfolding_all rfl) (by with_unfolding_all rfl) (by decide) (by rfl) (by decide) (by rfl) (by rfl) (by rfl) ?_)))
  k_with "compareOp In str ref" => ((k_here; k_dflt (refine in_words_K (by k_asm) (by k_mem) hWd ?_)))
  k_with "getItem ref str" => ((k_here; k_dflt (refine kdt_getItem (knd := PySem.strKind _ _) (by k_asm) (by k_mem) (by k_asm) (strKind_is _ _ _ _) (by assumption) ?_)))
  k_with "getAttr ref" => ((k_here; k_dflt (refine' get_attr_K ?k1 ?k2 ?k3 ?h1 ?h2 ?k4 ?k5 ?k6 ?k7 ?hA ?hl ?k9 ?_; (case k1 => k_asm); (case k2 => k_asm); (case k3 => k_asm); (case h1 => k_mem); (case h2 => k_mem); (case k4 => k_is); (case k5 => k_is); (case k6 => k_is); (case k7 => k_is); (case hA => assumption); (case hl => with_unfolding_all rfl); (case k9 => k_handed); k_whole)))
  k_with "setAttr ref" => ((k_here; k_dflt (refine' set_attr_K ?k1 ?k2 ?k3 ?h1 ?h2 ?k4 ?k5 ?k6 ?k7 ?U ?hA ?hl ?z ?_; (case k1 => k_asm); (case k2 => k_asm); (case k3 => k_asm); (case h1 => k_mem); (case h2 => k_mem); (case k4 => k_is); (case k5 => k_is); (case k6 => k_is); (case k7 => k_is); (case U => k_updF); (case hA => assumption); (case hl => with_unfolding_all rfl); (case z => omega); k_whole; intro h' es' F' N' hA' hz'; (try dsimp only at N'))))
  k_with "my sub0" => ((intro p hp; repeat (first | exact hp | refine List.Mem.tail _ ?_)))
  k_with "my dict" => (((case kh => exact rfl); (case k1 => k_asm); (case k2 => k_asm); (case k3 => exact modules_low (Top.nolimit (by k_asm))); (case k5 => walk_at "my sub0"); (case k4 => k_mem); (case k6 => omega); k_whole; intro d' o' h' tk' F' N' l1 lo' hd'))
  k_with "call type:dict" => ((k_here; (with_reducible show wpAny _ _ (call (Value.type "dict") [Value.ref _]) _ _ _); first
        | (refine' dict_pairs_K ?kh ?k1 ?k2 ?k3 ?k4 (pairsIn_sub hpsE5 ?k5) ?k6 ?_; walk_at "my dict")
        | (refine' dict_pairs_K ?kh ?k1 ?k2 ?k3 ?k4 (pairsIn_sub hpsF ?k5) ?k6 ?_; walk_at "my dict")))
  k_with "compareOp NotEq str str" => (refine nes_same ?_)
  k_with "compareOp NotEq int int" => (refine nei_same ?_)
  k_with "exec For Name Name cons nil" => ((k_here; (rename Fr _ _ _ _ => lF'); (with_unfolding_all refine' For_turns lF' ?_; k_whole)))
  k_with "my go" => (repeat' ((fail_if_success with_reducible refine strRest_at ?_); (fail_if_success with_reducible refine itemsRest_at ?_); (fail_if_success with_reducible show wpAny _ _ (call (Value.ref 96) _) _ _ _); (fail_if_success with_reducible show wpAny _ _ (call (Value.ref 132) _) _ _ _); (fail_if_success with_reducible show wpAny _ _ (call (Value.ref 139) _) _ _ _); (fail_if_success with_reducible show wpAny _ _ (call (Value.ref 167) _) _ _ _); (fail_if_success with_reducible show wpAny _ _ (call (Value.ref 174) _) _ _ _); (fail_if_success with_reducible show wpAny _ _ (call (Value.ref 181) _) _ _ _); (fail_if_success with_reducible show wpAny _ _ (call (Value.ref 65) _) _ _ _); (fail_if_success with_reducible show wpAny _ _ (compareOp CmpOp.NotEq (Value.ref _) (Value.ref _)) _ _ _); (fail_if_success with_reducible show wpAny _ _ (call (Value.builtin "repr") _) _ _ _); (fail_if_success with_reducible show wpAny _ _ (call (Value.builtin "dict.get") _) _ _ _); first | (k_unfold; (try dsimp only)) | walk1 | (dsimp only; walk1) | fail "no step"))
  trivial

noncomputable def lf12_pk : Pk2 lf11_pk.P1 := by
  apply Pk2.mk
  intro H1_9 H2_9
  intro w; unhygienic intros
  refine items_inv3 (Str.ofString "name") (Str.ofString "first") (Str.ofString "first") (fun i nw => nw = (q1, p1) :: (q2, p2) :: (q3, p3) :: (xA, instObj 114 dx) :: (dx, dictOf es2 28) :: (Dd, LCg.lst ysD) :: (Dz1, W.listOf nmV.toArray 0) :: (l_1, W.listOf #[Value.int kC tC, Value.ref D_1] 0) :: (D_1, W.listOf ws_1.toArray 0) :: (s₁.heap.objs.size + 1 + 1 + 1 + 1, oz4) :: (s₁.heap.objs.size + 1 + 1 + 1, oz1) :: (s₁.heap.objs.size + 1 + 1, o_3) :: (s₁.heap.objs.size + 1, o_2) :: rest5) ?_ ?_ rfl
  · intro i it nw hi hJ u7 v h tk hv F0
    subst hJ
    rw [List.getElem?_map] at hi
    obtain ⟨v', hvi, rfl⟩ := Option.map_eq_some_iff.mp hi
    obtain rfl : v = v' := hv
    obtain ⟨x, tx, rfl, hxi⟩ := strsAre_at hNm hvi
    have hxw : x ∈ names8 ++ zs3 ++ as5 := by
      have hm := List.mem_of_getElem? hxi
      rcases List.mem_append.mp hm with hm | hm
      · exact List.mem_append.mpr (.inl (List.mem_append.mpr (.inl (name_keys hNo5 hm))))
      · exact List.mem_append.mpr (.inl (List.mem_append.mpr (.inr hm)))
    obtain ⟨hx1, hx2⟩ := words_len hxw
    clear hxi hi hvi hxw
    intro oe ce N0
    simp only [List.cons_append, List.nil_append] at N0
    clear N8
    (rename_i lt5_rt1 lt5_rt2; revert w s₀ s₁ mg mb fa o pm doc a1 a2 a3 a4 ns a6 a7 sA wv a9 h1 tk1 o4 o3 o2 o1 D_1 ws_1 h_1 l_1 h_2 d_1 h_3 o_1 D_2 h_4 h_5 h_6 o_2 h_7 o_3 lf1_rt1 i_1 ns' u lt5_rt1 tkz1 oL kvsL k t1 m0 xA dx nA aA kA fA ouA inA fiA opA feA daA trA coA oN oA oK kvsN kvsA kW es w1 w2 w3 w4 w5 w6 w7 w8 w9 tp rest hz1 tqz1 hz2 oz1 tkz2 lN2 cN2 vsN hz3 lf7_rt1 lz1 hz4 Dz1 hz5 hz6 lf4_rt1 lz2_1 hz7 D' lf7_rt2 nmV alV g0 ysC Dw hC tkC kC tC wsC hz8 oz4 lf7_rt3 g1 ysD Dd hD2 tkD exD rest4 g2 ysG Dg hG tkG exG gpG rest5 q9 lf7_rt4 lf7_rt5 lf8_rt1 u9 lf8_rt2 lf7_rt6 lf12_rt1 q1 q2 q3 q4 q5 q6 p1 p2 p3 p4 x1 x2 x3 x4 x5 es2 lf9_rt1 lf9_rt2 lf10_rt1 lf10_rt2 lf10_rt3 lf10_rt4 d' o' lf11_rt1 lf11_rt2 q8 lf11_rt3 lf11_rt4 hy1 u8 tqy1 q7 h' tk' dy1 hy2 oy1 fsy1 fiy1 dy2 hy3 oy2 fsy2 fiy2 ly1 hy4 ly2 hy5 ly3 hy6 lt5_rt2 iI i u7 h tk x tx oe; exact (no_implicit_lambda% H1_9.out))
  · intro nw hJ u7 h tk F0 N0
    subst hJ
    clear N8
    dsimp only
    (rename_i lf13_rt1 lf13_rt2; revert w s₀ s₁ mg mb fa o pm doc a1 a2 a3 a4 ns a6 a7 sA wv a9 h1 tk1 o4 o3 o2 o1 D_1 ws_1 h_1 l_1 h_2 d_1 h_3 o_1 D_2 h_4 h_5 h_6 o_2 h_7 o_3 lf1_rt1 i_1 ns' u lf13_rt1 tkz1 oL kvsL k t1 m0 xA dx nA aA kA fA ouA inA fiA opA feA daA trA coA oN oA oK kvsN kvsA kW es w1 w2 w3 w4 w5 w6 w7 w8 w9 tp rest hz1 tqz1 hz2 oz1 tkz2 lN2 cN2 vsN hz3 lf7_rt1 lz1 hz4 Dz1 hz5 hz6 lf4_rt1 lz2_1 hz7 D' lf7_rt2 nmV alV g0 ysC Dw hC tkC kC tC wsC hz8 oz4 lf7_rt3 g1 ysD Dd hD2 tkD exD rest4 g2 ysG Dg hG tkG exG gpG rest5 q9 lf7_rt4 lf7_rt5 lf8_rt1 u9 lf8_rt2 lf7_rt6 lf12_rt1 q1 q2 q3 q4 q5 q6 p1 p2 p3 p4 x1 x2 x3 x4 x5 es2 lf9_rt1 lf9_rt2 lf10_rt1 lf10_rt2 lf10_rt3 lf10_rt4 d' o' lf11_rt1 lf11_rt2 q8 lf11_rt3 lf11_rt4 hy1 u8 tqy1 q7 h' tk' dy1 hy2 oy1 fsy1 fiy1 dy2 hy3 oy2 fsy2 fiy2 ly1 hy4 ly2 hy5 ly3 hy6 lf13_rt2 iI u7 h tk; exact (no_implicit_lambda% H2_9.out))

theorem rows_20 : True := by
  k_with_none
  k_with "my enter" => ((refine wpAny_call ?_; k_dflt (refine' code_defG ?k1 ?k2 ?k3 ?k4 ?k5 ?kA ?kF ?kK ?k6 ?k7 ?k8 ?k9 ?kB ?_ ?c2 ?c3 ?c4 ?c5; (case kA => exact rfl); (case kF => exact rfl); (case kK => assumption); (case k1 => k_asm); (case k2 => k_asm); (case k3 => k_asm); (case k4 => k_asm); (case k5 => k_asm); (case k6 => k_is); (case k7 => k_is); (case k8 => ktr_room); (case k9 => exact BindsTo.of_eq rfl); (case c5 => decide); (case kB => exact locs rfl); (case c2 => exact rfl); (case c3 => exact rfl); (case c4 => exact rfl); k_whole; intro g' L' h' FG' F' N' B' X' T' kG'; (try dsimp only); (try k_lift B'); (try k_fold))))
  k_with "my enterC" => ((refine wpAny_call ?_; k_dflt (refine' code_defC ?k1 ?k2 ?k3 ?k4 ?k5 ?kA ?kF ?kK ?k6 ?k7 ?k8 ?k9 ?kB ?kD ?_ ?c2 ?c3 ?c4; (case kA => exact rfl); (case kF => exact rfl); (case kK => assumption); (case k1 => k_asm); (case k2 => k_asm); (case k3 => k_asm); (case k4 => k_asm); (case k5 => k_asm); (case k6 => k_is); (case k7 => k_is); (case k8 => ktr_room); (case k9 => exact BindsTo.of_eq rfl); (case kB => exact rfl); (case kD => decide +kernel); (case c2 => exact rfl); (case c3 => exact rfl); (case c4 => exact rfl); k_whole; intro g' L' h' tk' cells' FG' F' N' Y' B' X' T' l1; (try k_lt l1); (obtain ⟨oc, hE', d1⟩ := CellsAre.one Y'; subst hE'; clear Y'); (try simp only [List.cons_append, List.nil_append] at N'); (try dsimp only); (try k_lift B'); (try k_fold))))
  k_with "ite" => (first | with_reducible refine ite_tt ?_ | with_reducible refine ite_ff ?_)
  k_with "call ref" => ((k_here; k_dflt (refine' kind_K ?k1 ?k2 ?k3 ?k4 ?k5 ?k6 ?k7 ?k8 ?k9 ?ka ?kb ?kc ?kd ?ke ?_; (case k1 => k_asm); (case k2 => k_asm); (case k3 => k_asm); (case k4 => k_asm); (case k5 => k_asm); (case k6 => first | exact rfl | assumption); (case k7 => k_mem); (case k8 => k_asm); (case k9 => k_asm); (case ka => ktr_room); (case kb => ktr_units); (case kc => first | assumption | omega); (case kd => first | assumption | omega); (case ke => first | assumption | exact allStr_nil); k_whole; intro t' h' tk' F' N' cE')))
  k_with "call ref" => ((k_here; k_dflt (refine' isarr_K ?k1 ?k2 ?k3 ?k4 ?k5 ?k6 ?ka ?kb ?kc ?kd ?_; (case k1 => k_asm); (case k2 => k_asm); (case k3 => k_asm); (case k4 => k_asm); (case k5 => k_asm); (case k6 => first | exact rfl | assumption); (case ka => ktr_room); (case kb => ktr_units); (case kc => first | assumption | omega); (case kd => first | assumption | omega); k_whole; intro h' tk' F' N')))
  k_with "call ref" => ((k_here; k_dflt (refine' means_K ?k1 ?k2 ?k3 ?k4 ?k5 ?k6 ?k7 ?k71 ?k72 ?k73 ?k8 ?k9 ?ka ?kb ?kc ?kd ?ke ?_; (case k1 => k_asm); (case k2 => k_asm); (case k3 => k_asm); (case k4 => k_asm); (case k5 => k_asm); (case k6 => first | exact rfl | assumption); (case k71 => k_mem); (case k72 => k_mem); (case k73 => first | assumption | k_get); (case k7 => k_mem); (case k8 => k_asm); (case k9 => k_asm); (case ka => ktr_room); (case kb => ktr_units); (case kc => first | assumption | omega | exact (hkl _ (by assumption)).1); (case kd => first | assumption | omega | exact (hkl _ (by assumption)).2); (case ke => first | assumption | exact allStr_nil); k_whole; intro h' tk' F' N')))
  k_with "getAttr ref" => ((k_here; k_dflt (refine' get_own ?F ?X ?I ?g ?h ?a ?n ?l ?v ?_; (case F => k_asm); (case X => k_asm); (case I => k_inst); (case g => k_is); (case h => k_is); (case a => k_is); (case n => k_is); (case l => assumption); (case v => k_handed); k_whole)))
  k_with "exec Assign cons ListComp" => ((k_here; k_dflt (refine LCt.Assign_ListComp_T (F₀ := by k_asm) (by rfl) (by with_unfolding_all rfl) (by with_unfolding_all rfl) (by decide) (by rfl) (by decide) (by rfl) (by rfl) (by rfl) ?_)))
  k_with "eval ListComp" => ((k_here; k_dflt (refine LCt.ListComp_T (F₀ := by k_asm) (by with_unfolding_all rfl) (by decide) (by rfl) (by decide) (by rfl) ?_)))
  k_with "compareOp In str ref" => ((k_here; k_dflt (refine kda_in (knd := PySem.strKind _ _) (by k_asm) (by k_mem) (by k_asm) (by k_asm) (strKind_is _ _ _ _) ((valueAt _ _).isSome) (by rfl) ?_)))
  k_with "subscriptTail" => ((k_here; (with_reducible show wpAny _ _ (subscriptTail _ _ (Value.ref _) (Value.str _ _)) _ _ _); (obtain ⟨v9, hv9⟩ := Option.isSome_iff_exists.mp (by assumption : (valueAt _ _).isSome = true)); k_dflt (refine kda_item (knd := PySem.strKind _ _) (by k_asm) (by k_mem) (by k_asm) (strKind_is _ _ _ _) hv9 ?_)))
  k_with "call type:dict" => ((k_here; (with_reducible show wpAny _ _ (call (Value.type "dict") [Value.ref _]) _ _ _); k_dflt (refine' dict_pairs_K ?kh ?k1 ?k2 ?k3 ?k4 ?k5 ?k6 ?_; (case kh => exact rfl); (case k1 => k_asm); (case k2 => k_asm); (case k3 => exact modules_low (Top.nolimit (by k_asm))); (case k4 => k_mem); (case k5 => assumption); (case k6 => omega); k_whole; intro d' o' h' tk' F' N' l1 lo' hd')))
  k_with "call type:list" => ((k_here; (with_reducible show wpAny _ _ (call (Value.type "list") [Value.ref _]) _ _ _); k_dflt (refine' list_items_K ?kh ?k1 ?k2 ?k3 ?k4 ?k5 ?k6 ?_; (case kh => exact rfl); (case k1 => k_asm); (case k2 => k_asm); (case k3 => k_mem); (case k4 => k_mem); (case k5 => k_asm); (case k6 => omega); k_whole; intro lS its9 c9 extra9 h' tk' F' N' hP9)))
  k_with "call type:dict" => ((k_here; (with_reducible show wpAny _ _ (call (Value.type "dict") [Value.ref _]) _ _ _); k_dflt (refine' dict_pairs_drop ?kh ?k1 ?k2 ?k3 ?k4 ?k5 ?k6 ?_; (case kh => exact rfl); (case k1 => k_asm); (case k2 => k_asm); (case k3 => exact modules_low (Top.nolimit (by k_asm))); (case k4 => exact rfl); (case k5 => assumption); (case k6 => omega); k_whole; intro dK oK h' tk' F' N' lK loK hdK; (try simp only [AllLt, and_true] at lK))))
  k_with "call ref" => ((k_here; k_dflt (refine' take_F ?k1 ?k2 ?k3 ?k4 ?k5 ?k6 ?k7 ?k8 ?k9 ?ka ?kb ?kc ?kd ?ke ?kf ?kg ?kh ?_; (case k1 => k_asm); (case k2 => k_asm); (case k3 => k_asm); (case k4 => k_asm); (case k5 => k_asm); (case k6 => first | exact rfl | assumption); (case k7 => k_updF); (case k8 => k_mem); (case k9 => assumption); (case ka => omega); (case kb => omega); (case kc => decide); (case kd => decide); (case ke => omega); (case kf => ktr_room); (case kg => ktr_units); (case kh => assumption); k_whole; intro rr tr tp h' tk' hr0 hr1 F' N'; (try dsimp only at N'))))
  k_with "call ref" => ((k_here; k_dflt (refine' own_K ?k1 ?k2 ?k3 ?k4 ?k5 ?k6 ?k7 ?k8 ?k9 ?ka ?kb ?kc ?kd ?ke ?_; (case k1 => k_asm); (case k2 => k_asm); (case k3 => k_asm); (case k4 => k_asm); (case k5 => k_asm); (case k6 => first | exact rfl | assumption); (case k7 => k_mem); (case k8 => k_asm); (case k9 => k_asm); (case ka => ktr_room); (case kb => ktr_units); (case kc => first | assumption | omega | decide); (case kd => first | assumption | omega | decide); (case ke => first | assumption | exact allStr_nil); k_whole; intro qo to h' tk' F' N' l1; (try simp only [AllLt, and_true] at l1))))
  k_with "cj" => (with_reducible (first | assumption | exact And.right (by first | assumption | exact And.right (by first | assumption | exact And.right (by first | assumption | exact And.right (by first | assumption | exact And.right (by first | assumption | exact And.right (by first | assumption | exact And.right (by first | assumption | exact And.right (by first | assumption | exact And.right (by first | assumption | exact And.right (by first | assumption | exact And.right (by first | assumption | exact And.right (by first | assumption | exact And.right (by first | assumption | exact And.right (by first | assumption | exact And.right (by first | assumption | exact And.right (by first | assumption | exact And.right (by first | assumption | exact And.right (by first | assumption | exact And.right (by first | assumption | exact And.right (by first | assumption | exact And.right (by first | assumption | exact And.right (by first | assumption | exact And.right (by first | assumption | exact And.right (by first | assumption | exact And.right (by first | assumption | exact And.right (by assumption))))))))))))))))))))))))))))
  k_with "ne" => (first | exact Nat.ne_of_gt (And.left (by k_extra "cj")) | exact Nat.ne_of_lt (And.left (by k_extra "cj")) | exact Nat.ne_of_gt (by with_reducible assumption) | exact Nat.ne_of_lt (by with_reducible assumption) | exact Nat.ne_of_gt (by k_extra "cj") | exact Nat.ne_of_lt (by k_extra "cj") | (refine neN ?_; (try dsimp only); omega))
  k_with "all" => (first | exact List.forall_mem_nil _ | (refine' List.forall_mem_cons.mpr ⟨?a, ?b⟩; (case a => first | exact Nat.ne_of_lt (And.left (by k_extra "cj")) | k_ne); (case b => k_all)) | assumption | exact allLt_ne (by k_extra "cj") | exact gt_ne (by assumption) (by first | assumption | omega) | fail "k_all")
  k_with "call ref" => ((k_here; k_dflt (refine' own3_K ?k1 ?k2 ?k3 ?k4 ?k5 ?k6 ?k7 ?k8 ?k9 ?ka ?kb ?kc ?kd ?ke ?_ ?_ ?_; (case k1 => k_asm); (case k2 => k_asm); (case k3 => k_asm); (case k4 => k_asm); (case k5 => k_asm); (case k6 => first | exact rfl | assumption); (case k7 => k_mem); (case k8 => k_asm); (case k9 => k_asm); (case ka => ktr_room); (case kb => ktr_units); (case kc => first | assumption | omega | decide); (case kd => first | assumption | omega | decide); (case ke => first | assumption | exact K3.nil); k_whole; all_goals (intro qo to h' tk' eO9 F' N' l1; (try simp only [AllLt, and_true] at l1)))))
  k_with "eval Dict" => ((k_here; k_dflt (first
        | (refine' kdn_str ?q ?F ?N ?b ?a ?l ?e ?n ?_; (case q => rfl); (case F => k_asm); (case N => first | k_asm | exact News.nil); (case b => exact Top.nolimit (by k_asm)); (case a => rfl); (case l => rfl); (case e => exact List.cons_ne_nil _ _); (case n => exact Nat.le_of_ble_eq_true rfl))
        | (refine' kdn_int ?q ?F ?N ?b ?a ?l ?e ?n ?_; (case q => rfl); (case F => k_asm); (case N => first | k_asm | exact News.nil); (case b => exact Top.nolimit (by k_asm)); (case a => rfl); (case l => rfl); (case e => exact List.cons_ne_nil _ _); (case n => exact Nat.le_of_ble_eq_true rfl))); intro d' h' o' F' N' l1 lo' hd'; (try k_lt l1)))
  k_with "setItem ref str" => ((k_here; k_dflt (refine' kda_set (knd := PySem.strKind _ _) ?F ?N ?U ?d (strKind_is _ _ _ _) ?z ?_; (case F => k_asm); (case N => k_asm); (case U => k_updF); (case d => assumption); (case z => rw [sizeLine_eq]; omega)); intro h' o' F' N' hdS'; (try dsimp only at N')))
  k_with "my sub" => (((repeat (refine List.forall_mem_cons.mpr ⟨by k_mem, ?_⟩)); first | exact List.forall_mem_nil _ | (intro p hp; repeat (first | exact hp | refine List.Mem.tail _ ?_))))
  k_with "execs cons" => (first | (k_here; k_gentoks) | ((with_reducible refine wpAny_execs_cons ?_); try dsimp only))
  k_with "assignInOrder" => ((dsimp only; walk_at "assignInOrder"))
  k_with "enter" => (first
        | (refine' code_def ?k1 ?k2 ?k3 ?k4 ?k5 ?kA ?kF ?kK ?k6 ?k7 ?k8 ?k9 ?kB ?_ ?c2 ?c3 ?c4 ?c5; (case kA => exact rfl); (case kF => exact rfl); (case kK => first | exact rfl | assumption); (case k1 => k_asm); (case k2 => k_asm); (case k3 => k_asm); (case k4 => k_asm); (case k5 => k_asm); (case k6 => k_is); (case k7 => k_is); (case k8 => ktr_room); (case k9 => first | exact BindsTo.of_eq rfl | exact binds_K (by k_in) rfl (by k_is) rfl rfl rfl | fail "k_enter: no rule for these arguments"); (case c5 => decide); (case kB => exact locs rfl); (case c2 => exact rfl); (case c3 => exact rfl); (case c4 => exact rfl); k_whole; intro g' L' h' FG' F' N' B' X' T'; (try dsimp only); (try k_lift B'); (try k_fold)))
  k_with "call ref" => ((k_here; (with_reducible show wpAny _ _ (call (Value.ref 160) _) _ _ _); k_dflt (refine' world_K (N := news_sub (by assumption) ?kN) ?k1 ?k2 ?k3 ?k5 ?k6 ?k7 ?k8 ?k9 ?ka ?kb ?kc ?kd ?ke ?kf ?kg ?kh ?ki ?_; (case k1 => k_asm); (case k2 => k_asm); (case k3 => k_asm); (case kN => walk_at "my sub"); (case k5 => k_asm); (case k6 => first | exact rfl | assumption); (case k7 => assumption); (case k8 => omega); (case k9 => omega); (case ka => omega); (case kb => omega); (case kc => omega); (case kd => assumption); (case ke => assumption); (case kf => assumption); (case kg => omega); (case kh => ktr_room); (case ki => ktr_units); k_whole; intro xA dx nA aA kA fA ouA inA fiA opA feA daA trA coA oN oA oK kvsN kvsA kW es w1 w2 w3 w4 w5 w6 w7 w8 w9 tp rest h' tk' FW NW kpW hkW loW hrW lN lA' lK hNd hNo hNl hAd hAo hAl hKd hSt hA hEl)))
  k_with "call type:list" => ((k_here; (with_reducible show wpAny _ _ (call (Value.type "list") [Value.ref _]) _ _ _); k_dflt (refine' list_keys_K ?kh ?k1 ?k2 ?k3 ?k4 ?k5 ?k6 ?_; (case kh => exact rfl); (case k1 => k_asm); (case k2 => k_asm); (case k3 => k_mem); (case k4 => assumption); (case k5 => k_asm); (case k6 => omega); k_whole; intro lN2 cN2 vsN h' tk' hvN F' N' lNN; (try simp only [AllLt, and_true] at lNN))))
  k_with "binaryOp Add ref ref" => ((k_here; (with_reducible show wpAny _ _ (binaryOp _ (Value.ref _) (Value.ref _)) _ _ _); k_dflt (refine' add_lists_K ?F ?N ?a ?b ?z ?_; (case F => k_asm); (case N => k_asm); (case a => k_mem); (case b => k_mem); (case z => walk_at "my len")); intro D' h' F' N' l1; (try simp only [AllLt, and_true] at l1)))
  k_with "my len" => (((have hLn9 := strsAre_len hvN); (simp only [List.length_append, List.length_map, List.length_cons, List.length_nil] at *); omega))
  k_with "exec Assign cons ListComp" => ((k_here; (with_reducible show wpAny _ _ (exec (.Assign _ (.ListComp _ [⟨_, .Attribute _ _ _, _, _⟩] _ _) _) _) _ _ _); k_dflt (refine Assign_ListComp_TD (knd := PySem.strKind _ _) (by k_asm) (by rfl) (by with_unfolding_all rfl) (by with_unfolding_all rfl) (by decide) (by rfl) (by decide) (by rfl) (by rfl) (by rfl) ?_)))
  k_with "compareOp In str ref" => ((k_here; k_dflt (refine in_words_K (by k_asm) (by k_mem) hWd ?_)))
  k_with "getItem ref str" => ((k_here; k_dflt (refine kdt_getItem (knd := PySem.strKind _ _) (by k_asm) (by k_mem) (by k_asm) (strKind_is _ _ _ _) (by assumption) ?_)))
  k_with "getAttr ref" => ((k_here; k_dflt (refine' get_attr_K ?k1 ?k2 ?k3 ?h1 ?h2 ?k4 ?k5 ?k6 ?k7 ?hA ?hl ?k9 ?_; (case k1 => k_asm); (case k2 => k_asm); (case k3 => k_asm); (case h1 => k_mem); (case h2 => k_mem); (case k4 => k_is); (case k5 => k_is); (case k6 => k_is); (case k7 => k_is); (case hA => assumption); (case hl => with_unfolding_all rfl); (case k9 => k_handed); k_whole)))
  k_with "setAttr ref" => ((k_here; k_dflt (refine' set_attr_K ?k1 ?k2 ?k3 ?h1 ?h2 ?k4 ?k5 ?k6 ?k7 ?U ?hA ?hl ?z ?_; (case k1 => k_asm); (case k2 => k_asm); (case k3 => k_asm); (case h1 => k_mem); (case h2 => k_mem); (case k4 => k_is); (case k5 => k_is); (case k6 => k_is); (case k7 => k_is); (case U => k_updF); (case hA => assumption); (case hl => with_unfolding_all rfl); (case z => omega); k_whole; intro h' es' F' N' hA' hz'; (try dsimp only at N'))))
  k_with "my sub0" => ((intro p hp; repeat (first | exact hp | refine List.Mem.tail _ ?_)))
  k_with "my dict" => (((case kh => exact rfl); (case k1 => k_asm); (case k2 => k_asm); (case k3 => exact modules_low (Top.nolimit (by k_asm))); (case k5 => walk_at "my sub0"); (case k4 => k_mem); (case k6 => omega); k_whole; intro d' o' h' tk' F' N' l1 lo' hd'))
  k_with "call type:dict" => ((k_here; (with_reducible show wpAny _ _ (call (Value.type "dict") [Value.ref _]) _ _ _); first
        | (refine' dict_pairs_K ?kh ?k1 ?k2 ?k3 ?k4 (pairsIn_sub hpsE5 ?k5) ?k6 ?_; walk_at "my dict")
        | (refine' dict_pairs_K ?kh ?k1 ?k2 ?k3 ?k4 (pairsIn_sub hpsF ?k5) ?k6 ?_; walk_at "my dict")))
  k_with "compareOp NotEq str str" => (refine nes_same ?_)
  k_with "compareOp NotEq int int" => (refine nei_same ?_)
  k_with "exec For Name Name cons nil" => ((k_here; (rename Fr _ _ _ _ => lF'); (with_unfolding_all refine' For_turns lF' ?_; k_whole)))
  k_with "my go" => (repeat' ((fail_if_success with_reducible refine strRest_at ?_); (fail_if_success with_reducible refine itemsRest_at ?_); (fail_if_success with_reducible show wpAny _ _ (call (Value.ref 96) _) _ _ _); (fail_if_success with_reducible show wpAny _ _ (call (Value.ref 132) _) _ _ _); (fail_if_success with_reducible show wpAny _ _ (call (Value.ref 139) _) _ _ _); (fail_if_success with_reducible show wpAny _ _ (call (Value.ref 167) _) _ _ _); (fail_if_success with_reducible show wpAny _ _ (call (Value.ref 174) _) _ _ _); (fail_if_success with_reducible show wpAny _ _ (call (Value.ref 181) _) _ _ _); (fail_if_success with_reducible show wpAny _ _ (call (Value.ref 65) _) _ _ _); (fail_if_success with_reducible show wpAny _ _ (compareOp CmpOp.NotEq (Value.ref _) (Value.ref _)) _ _ _); (fail_if_success with_reducible show wpAny _ _ (call (Value.builtin "repr") _) _ _ _); (fail_if_success with_reducible show wpAny _ _ (call (Value.builtin "dict.get") _) _ _ _); first | (k_unfold; (try dsimp only)) | walk1 | (dsimp only; walk1) | fail "no step"))
  k_with "my gn" => ((refine' get_name_K (kvs := storeAll [] (selP kvsN (plainW kvsL wsC))) (nA := q1) (kA := q3) ?k1 ?k2 ?k3 ?k4 ?k5 ?k6 ?m1 ?m2 ?hA ?m3 dp1 ls4.1 ?m4 dp3 ls4.2.2.1 hx1 hx2 ?ka ?kb ?r0 ?r1 ?r2 ?r3; (case k1 => k_asm); (case k2 => k_asm); (case k3 => k_asm); (case k4 => k_asm); (case k5 => k_asm); (case k6 => first | exact rfl | assumption); (case m1 => k_mem); (case m2 => k_mem); (case hA => exact hA2.sub (List.forall_mem_cons.mpr ⟨by with_unfolding_all rfl, List.forall_mem_cons.mpr ⟨by with_unfolding_all rfl, List.forall_mem_nil _⟩⟩)); (case m3 => k_mem); (case m4 => k_mem); (case ka => ktr_room); (case kb => ktr_units)))
  k_with "my gd" => ((refine' get_due (d := d') (kvsL := kvsL) (kvsN := kvsN) (ws := wsC) ?N ?m hd' lo' hNo5 hNd2 _ hv9 ?_; (case N => k_asm); (case m => k_mem); dsimp only [Option.getD_some, Option.getD_none]))
  k_with "my end" => ((refine' ⟨_, _, _, (q1, p1) :: (q2, p2) :: (q3, p3) :: (xA, instObj 114 dx) :: (dx, dictOf es2 28) :: (Dd, LCg.lst ysD) :: (Dz1, W.listOf nmV.toArray 0) :: (l_1, W.listOf #[Value.int kC tC, Value.ref D_1] 0) :: (D_1, W.listOf ws_1.toArray 0) :: (s₁.heap.objs.size + 1 + 1 + 1 + 1, oz4) :: (s₁.heap.objs.size + 1 + 1 + 1, oz1) :: (s₁.heap.objs.size + 1 + 1, o_3) :: (s₁.heap.objs.size + 1, o_2) :: rest5, rfl, ?F, ?N, ?off, ?kp, ?fr, rfl⟩; (case F => assumption); (case N => exact news_sub (by assumption) (by walk_at "my sub")); (case off => exact off_1 (by k_all)); (case kp => exact ⟨by k_mem, trivial⟩); (case fr => (intro y h1 h2 h3; simp only [h1, h2, if_false] <;> rfl))))
  trivial

theorem lt5_h : lf12_pk.P1 := by
  intro w; unhygienic intros
  dsimp only
  walk_at "my go"
  · walk_at "my gn"
    case r0 =>
      intro v h' tk' hv9 F' N'
      have hvo := names_ok hNo5 hNd2 hv9
      walk_at "my go"
      walk_at "my gd"
      refine' ne_val (led := rest5) ?N hvo ?s ?u ?_
      case N => k_asm
      case s => walk_at "my sub0"
      case u => k_units
      walk_at "my go"
      walk_at "my end"
    case r1 =>
      intro t h' tk' hv9 hk9 F' N'
      walk_at "my go"
      walk_at "my gd"
      walk_at "my go"
      walk_at "my end"
    case r2 =>
      intro t h' tk' hv9 hk9 F' N'
      exact absurd (hk9.symm.trans ((kindS_own hx1).trans eO9)) (by decide +kernel)
    case r3 =>
      intro q t t' h' tk' hv9 hk9 F' N' l1
      exact absurd (hk9.symm.trans ((kindS_own hx1).trans eO9)) (by decide +kernel)
  · walk_at "my gn"
    case r0 =>
      intro v h' tk' hv9 F' N'
      have hvo := names_ok hNo5 hNd2 hv9
      walk_at "my go"
      walk_at "my gd"
      refine' ne_val (led := rest5) ?N hvo ?s ?u ?_
      case N => k_asm
      case s => walk_at "my sub0"
      case u => k_units
      walk_at "my go"
      walk_at "my end"
    case r1 =>
      intro t h' tk' hv9 hk9 F' N'
      exact absurd (hk9.symm.trans ((kindS_own hx1).trans eO9)) (by decide +kernel)
    case r2 =>
      intro t h' tk' hv9 hk9 F' N'
      walk_at "my go"
      walk_at "my gd"
      walk_at "my go"
      walk_at "my end"
    case r3 =>
      intro q t t' h' tk' hv9 hk9 F' N' l1
      exact absurd (hk9.symm.trans ((kindS_own hx1).trans eO9)) (by decide +kernel)
  · walk_at "my gn"
    case r0 =>
      intro v h' tk' hv9 F' N'
      have hvo := names_ok hNo5 hNd2 hv9
      walk_at "my go"
      walk_at "my gd"
      refine' ne_val (led := rest5) ?N hvo ?s ?u ?_
      case N => k_asm
      case s => walk_at "my sub0"
      case u => k_units
      walk_at "my go"
      walk_at "my end"
    case r1 =>
      intro t h' tk' hv9 hk9 F' N'
      exact absurd (hk9.symm.trans ((kindS_own hx1).trans eO9)) (by decide +kernel)
    case r2 =>
      intro t h' tk' hv9 hk9 F' N'
      exact absurd (hk9.symm.trans ((kindS_own hx1).trans eO9)) (by decide +kernel)
    case r3 =>
      intro q t t' h' tk' hv9 hk9 F' N' l1
      simp only [AllLt] at l1
      walk_at "my go"
      walk_at "my gd"
      refine' ne_pair ?N ?p1 ?p2 ?u ?_
      case N => k_asm
      case p1 => k_mem
      case p2 => k_mem
      case u => k_units
      walk_at "my go"
      walk_at "my end"

theorem rows_21 : True := by
  k_with_none
  k_with "my enter" => ((refine wpAny_call ?_; k_dflt (refine' code_defG ?k1 ?k2 ?k3 ?k4 ?k5 ?kA ?kF ?kK ?k6 ?k7 ?k8 ?k9 ?kB ?_ ?c2 ?c3 ?c4 ?c5; (case kA => exact rfl); (case kF => exact rfl); (case kK => assumption); (case k1 => k_asm); (case k2 => k_asm); (case k3 => k_asm); (case k4 => k_asm); (case k5 => k_asm); (case k6 => k_is); (case k7 => k_is); (case k8 => ktr_room); (case k9 => exact BindsTo.of_eq rfl); (case c5 => decide); (case kB => exact locs rfl); (case c2 => exact rfl); (case c3 => exact rfl); (case c4 => exact rfl); k_whole; intro g' L' h' FG' F' N' B' X' T' kG'; (try dsimp only); (try k_lift B'); (try k_fold))))
  k_with "my enterC" => ((refine wpAny_call ?_; k_dflt (refine' code_defC ?k1 ?k2 ?k3 ?k4 ?k5 ?kA ?kF ?kK ?k6 ?k7 ?k8 ?k9 ?kB ?kD ?_ ?c2 ?c3 ?c4; (case kA => exact rfl); (case kF => exact rfl); (case kK => assumption); (case k1 => k_asm); (case k2 => k_asm); (case k3 => k_asm); (case k4 => k_asm); (case k5 => k_asm); (case k6 => k_is); (case k7 => k_is); (case k8 => ktr_room); (case k9 => exact BindsTo.of_eq rfl); (case kB => exact rfl); (case kD => decide +kernel); (case c2 => exact rfl); (case c3 => exact rfl); (case c4 => exact rfl); k_whole; intro g' L' h' tk' cells' FG' F' N' Y' B' X' T' l1; (try k_lt l1); (obtain ⟨oc, hE', d1⟩ := CellsAre.one Y'; subst hE'; clear Y'); (try simp only [List.cons_append, List.nil_append] at N'); (try dsimp only); (try k_lift B'); (try k_fold))))
  k_with "ite" => (first | with_reducible refine ite_tt ?_ | with_reducible refine ite_ff ?_)
  k_with "call ref" => ((k_here; k_dflt (refine' kind_K ?k1 ?k2 ?k3 ?k4 ?k5 ?k6 ?k7 ?k8 ?k9 ?ka ?kb ?kc ?kd ?ke ?_; (case k1 => k_asm); (case k2 => k_asm); (case k3 => k_asm); (case k4 => k_asm); (case k5 => k_asm); (case k6 => first | exact rfl | assumption); (case k7 => k_mem); (case k8 => k_asm); (case k9 => k_asm); (case ka => ktr_room); (case kb => ktr_units); (case kc => first | assumption | omega); (case kd => first | assumption | omega); (case ke => first | assumption | exact allStr_nil); k_whole; intro t' h' tk' F' N' cE')))
  k_with "call ref" => ((k_here; k_dflt (refine' isarr_K ?k1 ?k2 ?k3 ?k4 ?k5 ?k6 ?ka ?kb ?kc ?kd ?_; (case k1 => k_asm); (case k2 => k_asm); (case k3 => k_asm); (case k4 => k_asm); (case k5 => k_asm); (case k6 => first | exact rfl | assumption); (case ka => ktr_room); (case kb => ktr_units); (case kc => first | assumption | omega); (case kd => first | assumption | omega); k_whole; intro h' tk' F' N')))
  k_with "call ref" => ((k_here; k_dflt (refine' means_K ?k1 ?k2 ?k3 ?k4 ?k5 ?k6 ?k7 ?k71 ?k72 ?k73 ?k8 ?k9 ?ka ?kb ?kc ?kd ?ke ?_; (case k1 => k_asm); (case k2 => k_asm); (case k3 => k_asm); (case k4 => k_asm); (case k5 => k_asm); (case k6 => first | exact rfl | assumption); (case k71 => k_mem); (case k72 => k_mem); (case k73 => first | assumption | k_get); (case k7 => k_mem); (case k8 => k_asm); (case k9 => k_asm); (case ka => ktr_room); (case kb => ktr_units); (case kc => first | assumption | omega | exact (hkl _ (by assumption)).1); (case kd => first | assumption | omega | exact (hkl _ (by assumption)).2); (case ke => first | assumption | exact allStr_nil); k_whole; intro h' tk' F' N')))
  k_with "getAttr ref" => ((k_here; k_dflt (refine' get_own ?F ?X ?I ?g ?h ?a ?n ?l ?v ?_; (case F => k_asm); (case X => k_asm); (case I => k_inst); (case g => k_is); (case h => k_is); (case a => k_is); (case n => k_is); (case l => assumption); (case v => k_handed); k_whole)))
  k_with "exec Assign cons ListComp" => ((k_here; k_dflt (refine LCt.Assign_ListComp_T (F₀ := by k_asm) (by rfl) (by with_unfolding_all rfl) (by with_unfolding_all rfl) (by decide) (by rfl) (by decide) (by rfl) (by rfl) (by rfl) ?_)))
  k_with "eval ListComp" => ((k_here; k_dflt (refine LCt.ListComp_T (F₀ := by k_asm) (by with_unfolding_all rfl) (by decide) (by rfl) (by decide) (by rfl) ?_)))
  k_with "compareOp In str ref" => ((k_here; k_dflt (refine kda_in (knd := PySem.strKind _ _) (by k_asm) (by k_mem) (by k_asm) (by k_asm) (strKind_is _ _ _ _) ((valueAt _ _).isSome) (by rfl) ?_)))
  k_with "subscriptTail" => ((k_here; (with_reducible show wpAny _ _ (subscriptTail _ _ (Value.ref _) (Value.str _ _)) _ _ _); (obtain ⟨v9, hv9⟩ := Option.isSome_iff_exists.mp (by assumption : (valueAt _ _).isSome = true)); k_dflt (refine kda_item (knd := PySem.strKind _ _) (by k_asm) (by k_mem) (by k_asm) (strKind_is _ _ _ _) hv9 ?_)))
  k_with "call type:dict" => ((k_here; (with_reducible show wpAny _ _ (call (Value.type "dict") [Value.ref _]) _ _ _); k_dflt (refine' dict_pairs_K ?kh ?k1 ?k2 ?k3 ?k4 ?k5 ?k6 ?_; (case kh => exact rfl); (case k1 => k_asm); (case k2 => k_asm); (case k3 => exact modules_low (Top.nolimit (by k_asm))); (case k4 => k_mem); (case k5 => assumption); (case k6 => omega); k_whole; intro d' o' h' tk' F' N' l1 lo' hd')))
  k_with "call type:list" => ((k_here; (with_reducible show wpAny _ _ (call (Value.type "list") [Value.ref _]) _ _ _); k_dflt (refine' list_items_K ?kh ?k1 ?k2 ?k3 ?k4 ?k5 ?k6 ?_; (case kh => exact rfl); (case k1 => k_asm); (case k2 => k_asm); (case k3 => k_mem); (case k4 => k_mem); (case k5 => k_asm); (case k6 => omega); k_whole; intro lS its9 c9 extra9 h' tk' F' N' hP9)))
  k_with "call type:dict" => ((k_here; (with_reducible show wpAny _ _ (call (Value.type "dict") [Value.ref _]) _ _ _); k_dflt (refine' dict_pairs_drop ?kh ?k1 ?k2 ?k3 ?k4 ?k5 ?k6 ?_; (case kh => exact rfl); (case k1 => k_asm); (case k2 => k_asm); (case k3 => exact modules_low (Top.nolimit (by k_asm))); (case k4 => exact rfl); (case k5 => assumption); (case k6 => omega); k_whole; intro dK oK h' tk' F' N' lK loK hdK; (try simp only [AllLt, and_true] at lK))))
  k_with "call ref" => ((k_here; k_dflt (refine' take_F ?k1 ?k2 ?k3 ?k4 ?k5 ?k6 ?k7 ?k8 ?k9 ?ka ?kb ?kc ?kd ?ke ?kf ?kg ?kh ?_; (case k1 => k_asm); (case k2 => k_asm); (case k3 => k_asm); (case k4 => k_asm); (case k5 => k_asm); (case k6 => first | exact rfl | assumption); (case k7 => k_updF); (case k8 => k_mem); (case k9 => assumption); (case ka => omega); (case kb => omega); (case kc => decide); (case kd => decide); (case ke => omega); (case kf => ktr_room); (case kg => ktr_units); (case kh => assumption); k_whole; intro rr tr tp h' tk' hr0 hr1 F' N'; (try dsimp only at N'))))
  k_with "call ref" => ((k_here; k_dflt (refine' own_K ?k1 ?k2 ?k3 ?k4 ?k5 ?k6 ?k7 ?k8 ?k9 ?ka ?kb ?kc ?kd ?ke ?_; (case k1 => k_asm); (case k2 => k_asm); (case k3 => k_asm); (case k4 => k_asm); (case k5 => k_asm); (case k6 => first | exact rfl | assumption); (case k7 => k_mem); (case k8 => k_asm); (case k9 => k_asm); (case ka => ktr_room); (case kb => ktr_units); (case kc => first | assumption | omega | decide); (case kd => first | assumption | omega | decide); (case ke => first | assumption | exact allStr_nil); k_whole; intro qo to h' tk' F' N' l1; (try simp only [AllLt, and_true] at l1))))
  k_with "cj" => (with_reducible (first | assumption | exact And.right (by first | assumption | exact And.right (by first | assumption | exact And.right (by first | assumption | exact And.right (by first | assumption | exact And.right (by first | assumption | exact And.right (by first | assumption | exact And.right (by first | assumption | exact And.right (by first | assumption | exact And.right (by first | assumption | exact And.right (by first | assumption | exact And.right (by first | assumption | exact And.right (by first | assumption | exact And.right (by first | assumption | exact And.right (by first | assumption | exact And.right (by first | assumption | exact And.right (by first | assumption | exact And.right (by first | assumption | exact And.right (by first | assumption | exact And.right (by first | assumption | exact And.right (by first | assumption | exact And.right (by first | assumption | exact And.right (by first | assumption | exact And.right (by first | assumption | exact And.right (by first | assumption | exact And.right (by first | assumption | exact And.right (by assumption))))))))))))))))))))))))))))
  k_with "ne" => (first | exact Nat.ne_of_gt (And.left (by k_extra "cj")) | exact Nat.ne_of_lt (And.left (by k_extra "cj")) | exact Nat.ne_of_gt (by with_reducible assumption) | exact Nat.ne_of_lt (by with_reducible assumption) | exact Nat.ne_of_gt (by k_extra "cj") | exact Nat.ne_of_lt (by k_extra "cj") | (refine neN ?_; (try dsimp only); omega))
  k_with "all" => (first | exact List.forall_mem_nil _ | (refine' List.forall_mem_cons.mpr ⟨?a, ?b⟩; (case a => first | exact Nat.ne_of_lt (And.left (by k_extra "cj")) | k_ne); (case b => k_all)) | assumption | exact allLt_ne (by k_extra "cj") | exact gt_ne (by assumption) (by first | assumption | omega) | fail "k_all")
  k_with "call ref" => ((k_here; k_dflt (refine' own3_K ?k1 ?k2 ?k3 ?k4 ?k5 ?k6 ?k7 ?k8 ?k9 ?ka ?kb ?kc ?kd ?ke ?_ ?_ ?_; (case k1 => k_asm); (case k2 => k_asm); (case k3 => k_asm); (case k4 => k_asm); (case k5 => k_asm); (case k6 => first | exact rfl | assumption); (case k7 => k_mem); (case k8 => k_asm); (case k9 => k_asm); (case ka => ktr_room); (case kb => ktr_units); (case kc => first | assumption | omega | decide); (case kd => first | assumption | omega | decide); (case ke => first | assumption | exact K3.nil); k_whole; all_goals (intro qo to h' tk' eO9 F' N' l1; (try simp only [AllLt, and_true] at l1)))))
  k_with "eval Dict" => ((k_here; k_dflt (first
        | (refine' kdn_str ?q ?F ?N ?b ?a ?l ?e ?n ?_; (case q => rfl); (case F => k_asm); (case N => first | k_asm | exact News.nil); (case b => exact Top.nolimit (by k_asm)); (case a => rfl); (case l => rfl); (case e => exact List.cons_ne_nil _ _); (case n => exact Nat.le_of_ble_eq_true rfl))
        | (refine' kdn_int ?q ?F ?N ?b ?a ?l ?e ?n ?_; (case q => rfl); (case F => k_asm); (case N => first | k_asm | exact News.nil); (case b => exact Top.nolimit (by k_asm)); (case a => rfl); (case l => rfl); (case e => exact List.cons_ne_nil _ _); (case n => exact Nat.le_of_ble_eq_true rfl))); intro d' h' o' F' N' l1 lo' hd'; (try k_lt l1)))
  k_with "setItem ref str" => ((k_here; k_dflt (refine' kda_set (knd := PySem.strKind _ _) ?F ?N ?U ?d (strKind_is _ _ _ _) ?z ?_; (case F => k_asm); (case N => k_asm); (case U => k_updF); (case d => assumption); (case z => rw [sizeLine_eq]; omega)); intro h' o' F' N' hdS'; (try dsimp only at N')))
  k_with "my sub" => (((repeat (refine List.forall_mem_cons.mpr ⟨by k_mem, ?_⟩)); first | exact List.forall_mem_nil _ | (intro p hp; repeat (first | exact hp | refine List.Mem.tail _ ?_))))
  k_with "execs cons" => (first | (k_here; k_gentoks) | ((with_reducible refine wpAny_execs_cons ?_); try dsimp only))
  k_with "assignInOrder" => ((dsimp only; walk_at "assignInOrder"))
  k_with "enter" => (first
        | (refine' code_def ?k1 ?k2 ?k3 ?k4 ?k5 ?kA ?kF ?kK ?k6 ?k7 ?k8 ?k9 ?kB ?_ ?c2 ?c3 ?c4 ?c5; (case kA => exact rfl); (case kF => exact rfl); (case kK => first | exact rfl | assumption); (case k1 => k_asm); (case k2 => k_asm); (case k3 => k_asm); (case k4 => k_asm); (case k5 => k_asm); (case k6 => k_is); (case k7 => k_is); (case k8 => ktr_room); (case k9 => first | exact BindsTo.of_eq rfl | exact binds_K (by k_in) rfl (by k_is) rfl rfl rfl | fail "k_enter: no rule for these arguments"); (case c5 => decide); (case kB => exact locs rfl); (case c2 => exact rfl); (case c3 => exact rfl); (case c4 => exact rfl); k_whole; intro g' L' h' FG' F' N' B' X' T'; (try dsimp only); (try k_lift B'); (try k_fold)))
  k_with "call ref" => ((k_here; (with_reducible show wpAny _ _ (call (Value.ref 160) _) _ _ _); k_dflt (refine' world_K (N := news_sub (by assumption) ?kN) ?k1 ?k2 ?k3 ?k5 ?k6 ?k7 ?k8 ?k9 ?ka ?kb ?kc ?kd ?ke ?kf ?kg ?kh ?ki ?_; (case k1 => k_asm); (case k2 => k_asm); (case k3 => k_asm); (case kN => walk_at "my sub"); (case k5 => k_asm); (case k6 => first | exact rfl | assumption); (case k7 => assumption); (case k8 => omega); (case k9 => omega); (case ka => omega); (case kb => omega); (case kc => omega); (case kd => assumption); (case ke => assumption); (case kf => assumption); (case kg => omega); (case kh => ktr_room); (case ki => ktr_units); k_whole; intro xA dx nA aA kA fA ouA inA fiA opA feA daA trA coA oN oA oK kvsN kvsA kW es w1 w2 w3 w4 w5 w6 w7 w8 w9 tp rest h' tk' FW NW kpW hkW loW hrW lN lA' lK hNd hNo hNl hAd hAo hAl hKd hSt hA hEl)))
  k_with "call type:list" => ((k_here; (with_reducible show wpAny _ _ (call (Value.type "list") [Value.ref _]) _ _ _); k_dflt (refine' list_keys_K ?kh ?k1 ?k2 ?k3 ?k4 ?k5 ?k6 ?_; (case kh => exact rfl); (case k1 => k_asm); (case k2 => k_asm); (case k3 => k_mem); (case k4 => assumption); (case k5 => k_asm); (case k6 => omega); k_whole; intro lN2 cN2 vsN h' tk' hvN F' N' lNN; (try simp only [AllLt, and_true] at lNN))))
  k_with "binaryOp Add ref ref" => ((k_here; (with_reducible show wpAny _ _ (binaryOp _ (Value.ref _) (Value.ref _)) _ _ _); k_dflt (refine' add_lists_K ?F ?N ?a ?b ?z ?_; (case F => k_asm); (case N => k_asm); (case a => k_mem); (case b => k_mem); (case z => walk_at "my len")); intro D' h' F' N' l1; (try simp only [AllLt, and_true] at l1)))
  k_with "my len" => (((have hLn9 := strsAre_len hvN); (simp only [List.length_append, List.length_map, List.length_cons, List.length_nil] at *); omega))
  k_with "exec Assign cons ListComp" => ((k_here; (with_reducible show wpAny _ _ (exec (.Assign _ (.ListComp _ [⟨_, .Attribute _ _ _, _, _⟩] _ _) _) _) _ _ _); k_dflt (refine Assign_ListComp_TD (knd := PySem.strKind _ _) (by k_asm) (by rfl) (by with_unfolding_all rfl) (by with_unfolding_all rfl) (by decide) (by rfl) (by decide) (by rfl) (by rfl) (by rfl) ?_)))
  k_with "compareOp In str ref" => ((k_here; k_dflt (refine in_words_K (by k_asm) (by k_mem) hWd ?_)))
  k_with "getItem ref str" => ((k_here; k_dflt (refine kdt_getItem (knd := PySem.strKind _ _) (by k_asm) (by k_mem) (by k_asm) (strKind_is _ _ _ _) (by assumption) ?_)))
  k_with "getAttr ref" => ((k_here; k_dflt (refine' get_attr_K ?k1 ?k2 ?k3 ?h1 ?h2 ?k4 ?k5 ?k6 ?k7 ?hA ?hl ?k9 ?_; (case k1 => k_asm); (case k2 => k_asm); (case k3 => k_asm); (case h1 => k_mem); (case h2 => k_mem); (case k4 => k_is); (case k5 => k_is); (case k6 => k_is); (case k7 => k_is); (case hA => assumption); (case hl => with_unfolding_all rfl); (case k9 => k_handed); k_whole)))
  k_with "setAttr ref" => ((k_here; k_dflt (refine' set_attr_K ?k1 ?k2 ?k3 ?h1 ?h2 ?k4 ?k5 ?k6 ?k7 ?U ?hA ?hl ?z ?_; (case k1 => k_asm); (case k2 => k_asm); (case k3 => k_asm); (case h1 => k_mem); (case h2 => k_mem); (case k4 => k_is); (case k5 => k_is); (case k6 => k_is); (case k7 => k_is); (case U => k_updF); (case hA => assumption); (case hl => with_unfolding_all rfl); (case z => omega); k_whole; intro h' es' F' N' hA' hz'; (try dsimp only at N'))))
  k_with "my sub0" => ((intro p hp; repeat (first | exact hp | refine List.Mem.tail _ ?_)))
  k_with "my dict" => (((case kh => exact rfl); (case k1 => k_asm); (case k2 => k_asm); (case k3 => exact modules_low (Top.nolimit (by k_asm))); (case k5 => walk_at "my sub0"); (case k4 => k_mem); (case k6 => omega); k_whole; intro d' o' h' tk' F' N' l1 lo' hd'))
  k_with "call type:dict" => ((k_here; (with_reducible show wpAny _ _ (call (Value.type "dict") [Value.ref _]) _ _ _); first
        | (refine' dict_pairs_K ?kh ?k1 ?k2 ?k3 ?k4 (pairsIn_sub hpsE5 ?k5) ?k6 ?_; walk_at "my dict")
        | (refine' dict_pairs_K ?kh ?k1 ?k2 ?k3 ?k4 (pairsIn_sub hpsF ?k5) ?k6 ?_; walk_at "my dict")))
  k_with "compareOp NotEq str str" => (refine nes_same ?_)
  k_with "compareOp NotEq int int" => (refine nei_same ?_)
  k_with "exec For Name Name cons nil" => ((k_here; (rename Fr _ _ _ _ => lF'); (with_unfolding_all refine' For_turns lF' ?_; k_whole)))
  k_with "my go" => (repeat' ((fail_if_success with_reducible refine strRest_at ?_); (fail_if_success with_reducible refine itemsRest_at ?_); (fail_if_success with_reducible show wpAny _ _ (call (Value.ref 96) _) _ _ _); (fail_if_success with_reducible show wpAny _ _ (call (Value.ref 132) _) _ _ _); (fail_if_success with_reducible show wpAny _ _ (call (Value.ref 139) _) _ _ _); (fail_if_success with_reducible show wpAny _ _ (call (Value.ref 167) _) _ _ _); (fail_if_success with_reducible show wpAny _ _ (call (Value.ref 174) _) _ _ _); (fail_if_success with_reducible show wpAny _ _ (call (Value.ref 181) _) _ _ _); (fail_if_success with_reducible show wpAny _ _ (call (Value.ref 65) _) _ _ _); (fail_if_success with_reducible show wpAny _ _ (compareOp CmpOp.NotEq (Value.ref _) (Value.ref _)) _ _ _); (fail_if_success with_reducible show wpAny _ _ (call (Value.builtin "repr") _) _ _ _); (fail_if_success with_reducible show wpAny _ _ (call (Value.builtin "dict.get") _) _ _ _); first | (k_unfold; (try dsimp only)) | walk1 | (dsimp only; walk1) | fail "no step"))
  trivial

noncomputable def lf13_pk : Pk1 lf12_pk.P2 := by
  apply Pk1.mk
  intro H1_9
  intro w; unhygienic intros
  simp only [AllLt] at hq1
  have hq2a := hq2.1
  have hq3a := hq3.1
  clear hq2 hq3 hq4 hq5 hq6
  have hsl : (storeAll [] (selP kvsN (plainW kvsL wsC))).length ≤ 16 := by
    have z1 := storeAll_len (selP kvsN (plainW kvsL wsC)) []
    have z2 := selP_len kvsN (plainW kvsL wsC)
    have z3 : (plainW kvsL wsC).length ≤ wsC.length := List.length_filter_le _ _
    simp only [List.length_nil] at z1
    omega
  walk_at "my go"
  (rename_i lf14_rt1 lf14_rt2 _ _ lf14_rt3 lf14_rt4 lf14_rt5 _ lf14_rt6 lf14_rt7 _ lf14_rt8 lf14_rt9 _ lf14_rt10 _ _ lf14_rt11 _ _; revert w s₀ s₁ mg mb fa o pm doc a1 a2 a3 a4 ns a6 a7 sA wv a9 h1 tk1 o4 o3 o2 o1 D_1 ws_1 h_1 l_1 h_2 d_1 h_3 o_1 D_2 h_4 h_5 h_6 o_2 h_7 o_3 lf1_rt1 i_1 ns' u lf13_rt1 tkz1 oL kvsL k t1 m0 xA dx nA aA kA fA ouA inA fiA opA feA daA trA coA oN oA oK kvsN kvsA kW es w1 w2 w3 w4 w5 w6 w7 w8 w9 tp rest hz1 tqz1 hz2 oz1 tkz2 lN2 cN2 vsN hz3 lf7_rt1 lz1 hz4 Dz1 hz5 hz6 lf4_rt1 lz2_1 hz7 D' lf7_rt2 nmV alV g0 ysC Dw hC tkC kC tC wsC hz8 oz4 lf7_rt3 g1 ysD Dd hD2 tkD exD rest4 g2 ysG Dg hG tkG exG gpG rest5 q9 lf7_rt4 lf7_rt5 lf8_rt1 u9 lf8_rt2 lf7_rt6 lf12_rt1 q1 q2 q3 q4 q5 q6 p1 p2 p3 p4 x1 x2 x3 x4 x5 es2 lf9_rt1 lf9_rt2 lf10_rt1 lf10_rt2 lf10_rt3 lf10_rt4 d' lf14_rt1 lf11_rt1 lf11_rt2 q8 lf11_rt3 lf11_rt4 hy1 u8 tqy1 q7 lf14_rt2 tk' dy1 hy2 oy1 fsy1 fiy1 dy2 hy3 oy2 fsy2 fiy2 ly1 hy4 ly2 hy5 ly3 hy6 lf13_rt2 iI u7 h lf14_rt3 lf14_rt4 lf14_rt5 lf14_rt6 lf14_rt7 lf14_rt8 lf14_rt9 lf14_rt10 lf14_rt11 es' h' o' tk; exact (no_implicit_lambda% H1_9.out))


noncomputable def lf14_pk : Pk1 lf13_pk.P1 := by
  apply Pk1.mk
  intro H1_9
  intro w; unhygienic intros
  k_dflt (refine' clear_K (news := (l_1, W.listOf #[Value.int kC tC, Value.ref D_1] 0) :: (D_1, W.listOf ws_1.toArray 0) :: (s₁.heap.objs.size + 1 + 1 + 1, oz1) :: (s₁.heap.objs.size + 1, o_2) :: []) ?k1 ?k2 ?k3 ?k4 ?k5 ?k6 ?ho ?ho2 ?hz ?hA ?ka ?kb ?_)
  case k1 => k_asm
  case k2 => k_asm
  case k3 => k_asm
  case k4 => exact news_sub (by assumption) (by walk_at "my sub")
  case k5 => k_asm
  case k6 => first | exact rfl | assumption
  case ho => omega
  case ho2 => k_all
  case hz => assumption
  case hA => exact (by assumption : HasA _ ((_, _) :: (_, Value.ref q1) :: _)).sub (by repeat (first | exact List.forall_mem_nil _ | refine List.forall_mem_cons.mpr ⟨by with_unfolding_all rfl, ?_⟩))
  case ka => ktr_room
  case kb => ktr_units
  intro c1 c2 c3 c4 c5 r1 r2 y1 y2 y3 y4 y5 y6 es3 h' tk' F' N' dr1 dr2 lr1 lr2 hA3 hEl3 hc1 hc2 hc3
  clear hA2 hno hNo5 hAo5 hSt5 hr5 hpsE5 hpsF hgrF
  walk_at "my go"
  rename_i tqy1 hy1 ly1 hy2 l1y1 ly2 hy3 FFy1 NNy1 l1y2 dy1 hy4 oy1 loy1 hsy1 fsy1 hiy1 fiy1 l1y3 dy2 hy5 oy2 loy2 hsy2 fsy2 hiy2 fiy2 l1y4 ly3 hy6 FFy2 NNy2 l1y5
  have hneA : @Ne Nat c1 dy1 := by omega
  have hneB : @Ne Nat c2 dy2 := by omega
  refine' ne_lists_K (a := ly1) (b := ly3) ?N ?m1 ?m2 ?e ?u ?_
  case N => k_asm
  case m1 => k_mem
  case m2 => k_mem
  case u => k_units
  case e =>
    refine .cons (eqNil (by k_asm) (by k_mem) (by k_mem) (by k_units)) ?_
    refine .cons (eqDict (by k_asm) (by k_mem) (by k_mem) dr1 hsy1 lr1 loy1 hneA (by k_units)) ?_
    refine .cons (eqDict (by k_asm) (by k_mem) (by k_mem) dr2 hsy2 lr2 loy2 hneB (by k_units)) ?_
    exact .cons (eqInt _ _ _) .nil
  walk_at "my go"
  refine' text_K (n := kC) (pot := l_1) (scr := D_1) (ws := ws_1) (ns := ns') ?k1 ?k2 ?k3 ?k4 ?k5 ?k6 hI_1 ?h0 ?h1 ?h2 hlen ?ka ?kb ?_
  case k1 => k_asm
  case k2 => k_asm
  case k3 => k_asm
  case k4 => exact news_sub (by assumption) (by walk_at "my sub")
  case k5 => k_asm
  case k6 => first | exact rfl | assumption
  case h0 => omega
  case h1 => omega
  case h2 => omega
  case ka => ktr_room
  case kb => ktr_units
  intro tq dF oF kvF txt rs as9 tt h' tk' F' N' ltq lF9 dF9 hS9 hk9 hok9 hl9 hsp9 htl9
  walk_at "my go"
  (rename_i lf15_rt1 lf15_rt2 lf15_rt3 lf15_rt4 lf15_rt5 _ _ lf15_rt6 _ lf15_rt7 lf15_rt8 lf15_rt9 lf15_rt10 _ _ lf15_rt11 _ lf15_rt12 lf15_rt13 lf15_rt14 lf15_rt15 lf15_rt16 _ lf15_rt17 lf15_rt18 _ _ lf15_rt19 lf15_rt20 lf15_rt21 lf15_rt22 lf15_rt23 lf15_rt24 lf15_rt25 _ _; revert w s₀ s₁ mg mb fa o pm doc a1 a2 a3 a4 ns a6 a7 sA wv a9 h1 tk1 o4 o3 o2 o1 D_1 ws_1 h_1 l_1 h_2 d_1 h_3 o_1 D_2 h_4 h_5 h_6 o_2 h_7 o_3 lf1_rt1 i_1 ns' u lf13_rt1 tkz1 oL kvsL k t1 m0 xA dx nA aA kA fA ouA inA fiA opA feA daA trA coA oN oA oK kvsN kvsA kW es w1 w2 w3 w4 w5 w6 w7 w8 w9 tp rest hz1 tqz1 hz2 oz1 tkz2 lN2 cN2 vsN hz3 lf7_rt1 lz1 hz4 Dz1 hz5 hz6 lf4_rt1 lz2_1 hz7 D' lf7_rt2 nmV alV g0 ysC Dw hC tkC kC tC wsC hz8 oz4 lf7_rt3 g1 ysD Dd hD2 tkD exD rest4 g2 ysG Dg hG tkG exG gpG rest5 q9 lf7_rt4 lf7_rt5 lf8_rt1 u9 lf8_rt2 lf7_rt6 lf12_rt1 q1 q2 q3 q4 q5 q6 p1 p2 p3 p4 x1 x2 x3 x4 x5 es2 lf9_rt1 lf9_rt2 lf10_rt1 lf10_rt2 lf10_rt3 lf10_rt4 d' lf14_rt1 lf11_rt1 lf11_rt2 q8 lf11_rt3 lf11_rt4 lf15_rt1 u8 lf15_rt2 q7 lf14_rt2 tqy1 lf15_rt3 lf15_rt4 lf15_rt5 lf15_rt6 lf15_rt7 lf15_rt8 lf15_rt9 lf15_rt10 lf15_rt11 lf15_rt12 lf15_rt13 lf15_rt14 lf15_rt15 lf15_rt16 lf15_rt17 lf15_rt18 lf13_rt2 iI u7 h lf14_rt3 lf14_rt4 lf14_rt5 lf14_rt6 lf14_rt7 lf14_rt8 lf14_rt9 lf14_rt10 lf14_rt11 es' hy1 o' lf15_rt19 c1 c2 c3 c4 c5 r1 r2 y1 y2 y3 y4 y5 y6 es3 lf15_rt20 lf15_rt21 ly1 hy2 ly2 hy3 dy1 hy4 oy1 fsy1 fiy1 dy2 hy5 oy2 fsy2 fiy2 ly3 hy6 lf15_rt22 tq dF oF kvF txt rs as9 tt h' tk' lf15_rt23 lf15_rt24 lf15_rt25 tk; exact (no_implicit_lambda% H1_9.out))


theorem lf15_h : lf14_pk.P1 := by
  intro w; unhygienic intros
  refine' loaded_K (txt := txt) (rs := rs) (as := as9) ?k1 ?k2 ?k3 ?k4 ?k5 ?k6 ?ka ?kb hsp9 hok9 hl9 htl9 ?_
  case k1 => k_asm
  case k2 => k_asm
  case k3 => k_asm
  case k4 => k_asm
  case k5 => k_asm
  case k6 => first | exact rfl | assumption
  case ka => ktr_room
  case kb => ktr_units
  intro dG oG kvG h' tk' F' N' lG lG9 dG9 hSG
  walk_at "my go"
  refine' eq_prog_K (a := dG) (b := dF) ?N ?m1 ?m2 dG9 dF9 hSG hS9 lG9 lF9 ?u ?_
  case N => k_asm
  case m1 => k_mem
  case m2 => k_mem
  case u => k_units
  k_steps

theorem lf14_h : lf13_pk.P1 := lf14_pk.go9 ⟨@lf15_h⟩

theorem lf13_h : lf12_pk.P2 := lf13_pk.go9 ⟨@lf14_h⟩

theorem lf12_h : lf11_pk.P1 := lf12_pk.go9 ⟨@lt5_h⟩ ⟨@lf13_h⟩

theorem lf11_h : lf10_pk.P1 := lf11_pk.go9 ⟨@lf12_h⟩

theorem lf10_h : lf9_pk.P1 := lf10_pk.go9 ⟨@lf11_h⟩

theorem lf9_h : lf8_pk.P1 := lf9_pk.go9 ⟨@lf10_h⟩

theorem lf8_h : lf7_pk.P1 := lf8_pk.go9 ⟨@lf9_h⟩

theorem lf7_h : lf6_pk.P1 := lf7_pk.go9 ⟨@lf8_h⟩

theorem lf6_h : lf5_pk.P1 := lf6_pk.go9 ⟨@lf7_h⟩

theorem lf5_h : lf4_pk.P2 := lf5_pk.go9 ⟨@lf6_h⟩

theorem lf4_h : lf3_pk.P2 := lf4_pk.go9 ⟨@lt4_h⟩ ⟨@lf5_h⟩

theorem lf3_h : lf2_pk.P2 := lf3_pk.go9 ⟨@lt3_h⟩ ⟨@lf4_h⟩

theorem lf2_h : lf1_pk.P1 := lf2_pk.go9 ⟨@lt2_h⟩ ⟨@lf3_h⟩

theorem lf1_h : law_pk.P2 := lf1_pk.go9 ⟨@lf2_h⟩

theorem law_all : PySem.Challenge.rw_pf0005_01.Holds := law_pk.go9 ⟨@lt1_h⟩ ⟨@lf1_h⟩
end Mine
theorem PySem.Challenge.cw_pf0005_01_holds : PySem.Challenge.rw_pf0005_01.Holds :=
  Mine.law_all
