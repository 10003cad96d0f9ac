import PyProof.Rows.All
import Wide.All
import OpenK.AllK
import Wide.FinOn
import Lean
import PySem.Challenge.RW_pf0117_01
set_option Elab.async false

section
open PySem PySem.W PyProof.Rows
namespace Mine
-- the head in one run of the kernel, and the look at the law by the kernel's own decision: the library's twins of the program's constants weigh 18 MB in the compiled file;
-- its twins of its own functions (importEnds, start, fenceModules?, topRun, openSeen, OpenLaw.wellSaid) make both quicker
local macro_rules
  | `(tactic| o_law) => `(tactic| refine' holds_law (by (try rw [PySem.W.Fast.te9446332074065402090]); decide +kernel) fun said => ?_)
local macro_rules
  | `(tactic| refine $t) => match t with
    | `($f:ident $_*) => if f.getId == `PySem.W.holds_open then `(tactic| (refine' $t; (case $(Lean.mkIdent `hl):ident => (intro w; (try (unfold openEnds fencedOpening topFrom; rw [PySem.W.Fast.te10274390034422433532, PySem.W.Fast.te1435165496053646825, PySem.W.Fast.te14289696077712309145, PySem.W.Fast.te14082659384304107361, PySem.W.Fast.te4187177175401517315])); kernel_rfl)))) else Lean.Macro.throwUnsupported
    | _ => Lean.Macro.throwUnsupported
set_option maxRecDepth 100000 in
set_option maxHeartbeats 8000000 in
open_top hd for PySem.Challenge.rw_pf0117_01
end Mine

end

theorem Mine.top_off_Head1 : True := by
  w_top off
  trivial

section
open PySem PySem.W PyProof.Rows
namespace Mine

abbrev Led := List (Addr × Obj)

/-! ## an exception of the text's own, in flight, with the dict that its fields lie in -/

/-- e flies (fl = none) or is held by a frame: its class, its dict, its traceback -/
def Fly (B : Heap) (l : List Env) (e : Addr) (C : Value) (dx : Addr) (fl : Value) (h : Heap) : Prop :=
  B.StaysIn h ∧ B.get? e = none ∧ h.FunFrames B l ∧ ∃ oe vs T oT ts, h.get? e = some oe ∧ oe.cls = C ∧ oe.dict = some dx ∧ oe.data = .fields vs ∧ vs[1]? = some (.ref T) ∧ B.get? T = none ∧ T ≠ e ∧ h.get? T = some oT ∧ oT.data = .fields ts ∧ ts[3]? = some fl

/-- what a caller learns of a LexFault that flies out of a call: its field at, and that the ledger stands -/
def Thrown (base G : Heap) (l : List Env) (e : Addr) (at' : Int) (news : Led) (h : Heap) : Prop :=
  ∃ (B : Heap) (dx : Addr) (es : List DictEntry) (n : Nat) (t : Tok), base.StaysIn B ∧ (∀ b o, G.get? b = some o → b ∉ l.filterMap (·.frame) → B.get? b = some o) ∧
    (∀ q ∈ (dx, dictOf es n) :: news, B.get? q.1 = some q.2 ∧ G.get? q.1 = none ∧ base.get? q.1 = none) ∧ getL (Str.ofString "at") es = some (some (.int at' t)) ∧ Fly B l e (.ref 51) dx .none h

theorem Thrown.less {base G : Heap} {l : List Env} {e : Addr} {at' : Int} {news news' : Led} {h : Heap} (T : Thrown base G l e at' news h) (hs : ∀ p ∈ news', p ∈ news) : Thrown base G l e at' news' h := by
  obtain ⟨B, dx, es, n, t, h1, h2, h3, h4, h5⟩ := T
  refine ⟨B, dx, es, n, t, h1, h2, fun q hq => h3 q ?_, h4, h5⟩
  rcases List.mem_cons.mp hq with hq | hq
  · exact List.mem_cons.mpr (.inl hq)
  · exact List.mem_cons.mpr (.inr (hs q hq))

/-- what a call of the def at f, from any function's frame, does: it hands back a value that out tells, with what it made ahead on the ledger; or a LexFault flies that bad tells -/
def Says (d : Nat) (f : Addr) (vs : List Value) (pre : Heap → Led → Prop) (out : Led → Led → Value → Prop) (bad : Int → Prop) : Prop :=
  ∀ (w : World) (mean : ExcName → Option Value) (mg mb : Str → Option Value) (dp un : Nat) (gd : Option (List Code)) (cn : Str) (cs : Scope) (a : Addr) (ccd : Value) (cl : List (Str × Addr)) (outer : List Env) (A₀ : Around) (base h₀ : Heap) (L : Addr) (m : Str → Option Value) (news : Led) (s : Shared) (Q E : Value → Shared → Prop),
    Below A₀ base outer h₀ → Fr h₀ L s.heap m → (Mine.hd.heap_1 w.params).In h₀ → News h₀ L s.heap news → Top Mine.hd.view_1 (looseW Mine.hd.view_1 []) mean mg mb h₀ → cs.kind = .function →
    pre h₀ news → dp + d < recursionLimit → un + 8 * d < cLine →
    (∀ r tl h' tk', Fr h₀ L h' m → News h₀ L h' (tl ++ news) → out tl news r → Q r { s with heap := h', toks := tk' }) →
    (∀ at' e h' tk' G, bad at' → Fr h₀ L G m → G.UpToSlots h' → Thrown base G (envX cn cs L a ccd cl :: outer) e at' news h' → E (.ref e) { s with heap := h', toks := tk' }) →
    wpAny (model Challenge.rw_pf0117_01.row.prog w) (ktrTop dp un gd cn cs L a ccd cl outer) (call (.ref f) vs) Q E s

theorem says_use {d : Nat} {f : Addr} {vs : List Value} {pre : Heap → Led → Prop} {out : Led → Led → Value → Prop} {bad : Int → Prop}
    {w : World} {mean : ExcName → Option Value} {mg mb : Str → Option Value} {dp un : Nat} {gd : Option (List Code)} {cn : Str} {cs : Scope} {a : Addr} {ccd : Value} {cl : List (Str × Addr)} {outer : List Env} {A₀ : Around} {base h₀ : Heap} {L : Addr} {m : Str → Option Value} {news : Led} {s : Shared} {Q E : Value → Shared → Prop}
    (C : Says d f vs pre out bad) (B : Below A₀ base outer h₀) (F : Fr h₀ L s.heap m) (X : (Mine.hd.heap_1 w.params).In h₀) (N : News h₀ L s.heap news) (T : Top Mine.hd.view_1 (looseW Mine.hd.view_1 []) mean mg mb h₀) (hk : cs.kind = .function)
    (hp : pre h₀ news) (hd : dp + d < recursionLimit) (hu : un + 8 * d < cLine)
    (throw : ∀ at' e h' tk' G, bad at' → Fr h₀ L G m → G.UpToSlots h' → Thrown base G (envX cn cs L a ccd cl :: outer) e at' news h' → E (.ref e) { s with heap := h', toks := tk' })
    (ret : ∀ r tl h' tk', Fr h₀ L h' m → News h₀ L h' (tl ++ news) → out tl news r → Q r { s with heap := h', toks := tk' }) :
    wpAny (model Challenge.rw_pf0117_01.row.prog w) (ktrTop dp un gd cn cs L a ccd cl outer) (call (.ref f) vs) Q E s :=
  C _ _ _ _ _ _ _ _ _ _ _ _ _ _ _ _ _ _ _ _ _ _ B F X N T hk hp hd hu ret throw

abbrev Never : Int → Prop := fun _ => False
/-- an int, a text, a bool come back and nothing is made -/
abbrev OutI (v : Int) (P : Prop := True) : Led → Led → Value → Prop := fun tl _ r => tl = [] ∧ (∃ t, r = .int v t) ∧ P
abbrev OutS (v : Str) (P : Prop := True) : Led → Led → Value → Prop := fun tl _ r => tl = [] ∧ (∃ t, r = .str v t) ∧ P
/-- a pair of ints comes back -/
abbrev OutQ (v p : Int) : Led → Led → Value → Prop := fun tl _ r => ∃ D n t1 t2, tl = [(D, ({ cls := .type "tuple", data := .seq #[.int v t1, .int p t2] n } : Obj))] ∧ r = .ref D
theorem out_q {a b v p : Int} {D : Addr} {n : Nat} {t1 t2 : Tok} {news : Led} (h1 : a = v) (h2 : b = p) : OutQ v p [(D, ({ cls := .type "tuple", data := .seq #[.int a t1, .int b t2] n } : Obj))] news (.ref D) := by
  subst h1; subst h2; exact ⟨_, _, _, _, rfl, rfl⟩
/-- all that was made are tuples -/
def Tups (l : Led) : Prop := ∀ p ∈ l, p.2.cls = .type "tuple"
theorem tups_nil : Tups [] := fun _ h => nomatch h
theorem tups_cons {a : Addr} {o : Obj} {l : Led} (h : o.cls = .type "tuple") (t : Tups l) : Tups ((a, o) :: l) := fun p hp => by
  rcases List.mem_cons.mp hp with rfl | hp
  · exact h
  · exact t p hp
/-- a pair of a token and the place behind it comes back -/
abbrev OutN (R : Except Int (Dat × Int)) : Led → Led → Value → Prop := fun tl news r =>
  ∃ D n T e te d, (D, ({ cls := .type "tuple", data := .seq #[.ref T, .int e te] n } : Obj)) ∈ tl ∧ r = .ref D ∧ R = .ok (d, e) ∧ DatIn tl (.ref T) d ∧ Tups tl
abbrev OutD (d : Dat) : Led → Led → Value → Prop := fun tl _ r => DatIn tl r d

theorem news_nil {h₀ h : Heap} {L : Addr} {news : Led} (N : News h₀ L h news) : News h₀ L h ([] ++ news) := N
theorem out_int {a b : Int} {t : Tok} {news : Led} {P : Prop} (h : a = b) (p : P) : OutI b P [] news (Value.int a t) := ⟨rfl, ⟨t, h ▸ rfl⟩, p⟩
theorem out_str {a b : Str} {t : Tok} {news : Led} {P : Prop} (h : a = b) (p : P) : OutS b P [] news (Value.str a t) := ⟨rfl, ⟨t, h ▸ rfl⟩, p⟩
theorem dat_int {news : Led} {a b : Int} {t : Tok} (h : a = b) : DatIn news (.int a t) (.int b) := h ▸ .int a t
theorem dat_str {news : Led} {a b : Str} {t : Tok} (h : a = b) : DatIn news (.str a t) (.str b) := h ▸ .str a t
theorem dat_tup2 {news : Led} {D : Addr} {v1 v2 : Value} {n : Nat} {d1 d2 : Dat} (hm : (D, ({ cls := .type "tuple", data := .seq #[v1, v2] n } : Obj)) ∈ news) (h1 : DatIn news v1 d1) (h2 : DatIn news v2 d2) : DatIn news (.ref D) (.tuple [d1, d2]) :=
  .tuple (vs := [v1, v2]) hm (.cons h1 (.cons h2 .nil))
theorem dat_tup3 {news : Led} {D : Addr} {v1 v2 v3 : Value} {n : Nat} {d1 d2 d3 : Dat} (hm : (D, ({ cls := .type "tuple", data := .seq #[v1, v2, v3] n } : Obj)) ∈ news) (h1 : DatIn news v1 d1) (h2 : DatIn news v2 d2) (h3 : DatIn news v3 d3) : DatIn news (.ref D) (.tuple [d1, d2, d3]) :=
  .tuple (vs := [v1, v2, v3]) hm (.cons h1 (.cons h2 (.cons h3 .nil)))
theorem drop_tl {h₀ h : Heap} {L : Addr} {tl news : Led} (N : News h₀ L h (tl ++ news)) : News h₀ L h news := fun p hp => N p (List.mem_append_right _ hp)

theorem says_useI {d : Nat} {f : Addr} {vs : List Value} {pre : Heap → Led → Prop} {v : Int} {P : Prop}
    {w : World} {mean : ExcName → Option Value} {mg mb : Str → Option Value} {dp un : Nat} {gd : Option (List Code)} {cn : Str} {cs : Scope} {a : Addr} {ccd : Value} {cl : List (Str × Addr)} {outer : List Env} {A₀ : Around} {base h₀ : Heap} {L : Addr} {m : Str → Option Value} {news : Led} {s : Shared} {Q E : Value → Shared → Prop}
    (C : Says d f vs pre (OutI v P) Never) (B : Below A₀ base outer h₀) (F : Fr h₀ L s.heap m) (X : (Mine.hd.heap_1 w.params).In h₀) (N : News h₀ L s.heap news) (T : Top Mine.hd.view_1 (looseW Mine.hd.view_1 []) mean mg mb h₀) (hk : cs.kind = .function)
    (hp : pre h₀ news) (hd : dp + d < recursionLimit) (hu : un + 8 * d < cLine)
    (ret : ∀ t h' tk', Fr h₀ L h' m → News h₀ L h' news → P → Q (.int v t) { s with heap := h', toks := tk' }) :
    wpAny (model Challenge.rw_pf0117_01.row.prog w) (ktrTop dp un gd cn cs L a ccd cl outer) (call (.ref f) vs) Q E s :=
  says_use C B F X N T hk hp hd hu (fun _ _ _ _ _ hF => hF.elim) (fun r tl h' tk' F' N' o => by obtain ⟨rfl, ⟨t, rfl⟩, p⟩ := o; exact ret t h' tk' F' N' p)

theorem says_useS {d : Nat} {f : Addr} {vs : List Value} {pre : Heap → Led → Prop} {v : Str} {P : Prop}
    {w : World} {mean : ExcName → Option Value} {mg mb : Str → Option Value} {dp un : Nat} {gd : Option (List Code)} {cn : Str} {cs : Scope} {a : Addr} {ccd : Value} {cl : List (Str × Addr)} {outer : List Env} {A₀ : Around} {base h₀ : Heap} {L : Addr} {m : Str → Option Value} {news : Led} {s : Shared} {Q E : Value → Shared → Prop}
    (C : Says d f vs pre (OutS v P) Never) (B : Below A₀ base outer h₀) (F : Fr h₀ L s.heap m) (X : (Mine.hd.heap_1 w.params).In h₀) (N : News h₀ L s.heap news) (T : Top Mine.hd.view_1 (looseW Mine.hd.view_1 []) mean mg mb h₀) (hk : cs.kind = .function)
    (hp : pre h₀ news) (hd : dp + d < recursionLimit) (hu : un + 8 * d < cLine)
    (ret : ∀ t h' tk', Fr h₀ L h' m → News h₀ L h' news → P → Q (.str v t) { s with heap := h', toks := tk' }) :
    wpAny (model Challenge.rw_pf0117_01.row.prog w) (ktrTop dp un gd cn cs L a ccd cl outer) (call (.ref f) vs) Q E s :=
  says_use C B F X N T hk hp hd hu (fun _ _ _ _ _ hF => hF.elim) (fun r tl h' tk' F' N' o => by obtain ⟨rfl, ⟨t, rfl⟩, p⟩ := o; exact ret t h' tk' F' N' p)

theorem says_useQ {d : Nat} {f : Addr} {vs : List Value} {pre : Heap → Led → Prop} {v p : Int}
    {w : World} {mean : ExcName → Option Value} {mg mb : Str → Option Value} {dp un : Nat} {gd : Option (List Code)} {cn : Str} {cs : Scope} {a : Addr} {ccd : Value} {cl : List (Str × Addr)} {outer : List Env} {A₀ : Around} {base h₀ : Heap} {L : Addr} {m : Str → Option Value} {news : Led} {s : Shared} {Q E : Value → Shared → Prop}
    (C : Says d f vs pre (OutQ v p) Never) (B : Below A₀ base outer h₀) (F : Fr h₀ L s.heap m) (X : (Mine.hd.heap_1 w.params).In h₀) (N : News h₀ L s.heap news) (T : Top Mine.hd.view_1 (looseW Mine.hd.view_1 []) mean mg mb h₀) (hk : cs.kind = .function)
    (hp : pre h₀ news) (hd : dp + d < recursionLimit) (hu : un + 8 * d < cLine)
    (ret : ∀ D n t1 t2 h' tk', Fr h₀ L h' m → News h₀ L h' ((D, ({ cls := .type "tuple", data := .seq #[.int v t1, .int p t2] n } : Obj)) :: news) → Q (.ref D) { s with heap := h', toks := tk' }) :
    wpAny (model Challenge.rw_pf0117_01.row.prog w) (ktrTop dp un gd cn cs L a ccd cl outer) (call (.ref f) vs) Q E s :=
  says_use C B F X N T hk hp hd hu (fun _ _ _ _ _ hF => hF.elim) (fun r tl h' tk' F' N' o => by obtain ⟨D, n, t1, t2, rfl, rfl⟩ := o; exact ret D n t1 t2 h' tk' F' N')

/-! ## a cut: an expression whose value P tells, and nothing is made; what stands behind it is walked once -/
def Back (h₀ : Heap) (L : Addr) (m : Str → Option Value) (news : Led) (P : Value → Prop) (s : Shared) (v : Value) (s' : Shared) : Prop :=
  ∃ h' tk', s' = { s with heap := h', toks := tk' } ∧ Fr h₀ L h' m ∧ News h₀ L h' news ∧ P v
theorem Back.intro {h₀ h' : Heap} {L : Addr} {m : Str → Option Value} {news : Led} {P : Value → Prop} {s : Shared} {v : Value} {tk' : Nat} (F : Fr h₀ L h' m) (N : News h₀ L h' news) (p : P v) :
    Back h₀ L m news P s v { s with heap := h', toks := tk' } := ⟨h', tk', rfl, F, N, p⟩
theorem cut_to {prog : Program} {w : World} {A : Around} {c : Sem Value} {h₀ : Heap} {L : Addr} {m : Str → Option Value} {news : Led} {s : Shared} {Q E : Value → Shared → Prop} (P : Value → Prop) (F : Fr h₀ L s.heap m) (N : News h₀ L s.heap news)
    (a : wpAny (model prog w) A c (Back h₀ L m news P s) E s) (b : ∀ v h' tk', P v → Fr h₀ L h' m → News h₀ L h' news → Q v { s with heap := h', toks := tk' }) : wpAny (model prog w) A c Q E s :=
  wpAny_mono a (fun v s' ⟨h', tk', e, F', N', p⟩ => e ▸ b v h' tk' p F' N') fun _ _ e => e

end Mine

end

theorem Mine.top_off_S0 : True := by
  w_top off
  trivial

section
open PySem PySem.W PyProof.Rows
namespace Mine

/-! the texts, as lists -/
abbrev li (x : Str) : List Nat := x.cps.toList

theorem li_len (x : Str) : (li x).length = x.length := Array.length_toList
theorem str_eq {x y : Str} (h : li x = li y) : x = y := Str.ext' (Array.toList_inj.mp h)
theorem li_mk (l : List Nat) : li ⟨l.toArray⟩ = l := rfl
theorem li_app (x y : Str) : li (x ++ y) = li x ++ li y := by
  show (x.cps ++ y.cps).toList = _
  simp

theorem item_is {x : Str} {k : Int} (h0 : 0 ≤ k) (h1 : k < x.length) : Txt.item x k = ⟨#[(li x).getD k.toNat 0]⟩ := by
  have hb : k.toNat < x.cps.size := by show k.toNat < x.length; omega
  unfold Txt.item Txt.charAt
  rw [seqIndex_of h0 h1]
  simp [hb]

/-- a sign is one of d's -/
theorem occ_is {x d : Str} {k : Int} (h0 : 0 ≤ k) (h1 : k < x.length) : (Builtin.Str.occurrences d (Txt.item x k) 0 d.length 1).isEmpty = !((li d).contains ((li x).getD k.toNat 0)) := by
  have h := StrLaws.found_one d ((li x).getD k.toNat 0)
  rw [item_is h0 h1]
  have e : (li d).contains ((li x).getD k.toNat 0) = decide ((li x).getD k.toNat 0 ∈ li d) := by simp
  rw [e, ← h, Bool.not_not]

theorem strSlice_clip (i j : Int) (h0 : 0 ≤ i) (h1 : 0 ≤ j) (n : Nat) : Builtin.Str.strSliceIndices (some i) (some j) 1 n = Builtin.Str.strSliceIndices (some (min i n)) (some (min j n)) 1 n := by
  unfold Builtin.Str.strSliceIndices
  simp only [show (1 : Int) > 0 by decide, if_true]
  have a : ∀ k : Int, 0 ≤ k → (max 0 (min (if k < 0 then k + (n : Int) else k) n)) = (max 0 (min (if min k n < 0 then min k n + (n : Int) else min k n) n)) := by
    intro k hk
    rw [if_neg (by omega), if_neg (by omega)]
    omega
  rw [a i h0, a j h1]

theorem slice_li {x : Str} {i j : Int} (h0 : 0 ≤ i) (h1 : i ≤ j) : li (Txt.slice x (some i) (some j)) = ((li x).drop i.toNat).take (j - i).toNat := by
  have hn := li_len x
  have hn' : x.cps.toList.length = x.length := hn
  have e : Txt.slice x (some i) (some j) = Txt.slice x (some (min i x.length)) (some (min j x.length)) := by
    unfold Txt.slice
    rw [strSlice_clip i j h0 (by omega) x.length]
  have c := slice_closesL (x := x) (i := min i x.length) (j := min j x.length) (by omega) (by omega) (by omega)
  rw [e, eq_of_beq c, li_mk]
  by_cases hi : i ≤ x.length
  · rw [show min i (x.length : Int) = i by omega]
    by_cases hj : j ≤ x.length
    · rw [show min j (x.length : Int) = j by omega]
    · rw [show min j (x.length : Int) = x.length by omega]
      rw [List.take_of_length_le (by rw [List.length_drop]; omega), List.take_of_length_le (by rw [List.length_drop]; omega)]
  · rw [show min i (x.length : Int) = x.length by omega, show min j (x.length : Int) = x.length by omega]
    rw [List.drop_of_length_le (l := li x) (i := i.toNat) (by omega)]
    simp

/-! the def run_of -/
def runOf (x : Str) (i : Int) (d : Str) : Int := i + (((li x).drop i.toNat).takeWhile fun c => (li d).contains c).length

theorem runOf_ge (x : Str) (i : Int) (d : Str) : i ≤ runOf x i d := by unfold runOf; omega
theorem runOf_le {x : Str} {i : Int} {d : Str} (h0 : 0 ≤ i) (h : i ≤ x.length) : runOf x i d ≤ x.length := by
  unfold runOf
  have a : (((li x).drop i.toNat).takeWhile fun c => (li d).contains c).length ≤ ((li x).drop i.toNat).length := (List.takeWhile_sublist _).length_le
  rw [List.length_drop, li_len] at a
  omega
theorem drop_cons {x : Str} {k : Int} (h0 : 0 ≤ k) (h1 : k < x.length) : (li x).drop k.toNat = (li x).getD k.toNat 0 :: (li x).drop (k + 1).toNat := by
  have hb : k.toNat < (li x).length := by rw [li_len]; omega
  rw [List.drop_eq_getElem_cons hb, show (k + 1).toNat = k.toNat + 1 by omega, List.getD_eq_getElem?_getD, List.getElem?_eq_getElem hb]
  rfl
theorem runOf_in {x d : Str} {k : Int} (h0 : 0 ≤ k) (h1 : k < x.length) (h : (Builtin.Str.occurrences d (Txt.item x k) 0 d.length 1).isEmpty = false) : runOf x (k + 1) d = runOf x k d := by
  rw [occ_is h0 h1] at h
  unfold runOf
  rw [drop_cons h0 h1, List.takeWhile_cons, if_pos (by simpa using h)]
  simp only [List.length_cons]
  omega
theorem runOf_out {x d : Str} {k : Int} (h0 : 0 ≤ k) (h1 : k < x.length) (h : (Builtin.Str.occurrences d (Txt.item x k) 0 d.length 1).isEmpty = true) : runOf x k d = k := by
  rw [occ_is h0 h1] at h
  unfold runOf
  rw [drop_cons h0 h1, List.takeWhile_cons, if_neg (by simpa using h)]
  simp
theorem runOf_end {x d : Str} {k : Int} (h : ¬ k < x.length) : runOf x k d = k := by
  unfold runOf
  rw [List.drop_of_length_le (by rw [li_len]; omega)]
  simp
end Mine

end

theorem Mine.top_off_P0 : True := by
  w_top off
  trivial

section
open PySem PySem.W PySem.Calls PySem.NumText PyProof.Rows
set_option maxRecDepth 100000
namespace Mine
theorem text_in {M : Model} {A : Around} {E : Value → Shared → Prop} {s : Shared} {Q : Value → Shared → Prop} {v : Value} {text : List Nat} {n : Int} (hn : s.heap.NoDigits)
    (hs : ¬ (text.takeWhile (· != 0)).length ≤ 640) (hr : (int_private% "readNumeral") 4300 10 (text.takeWhile (· != 0)) = (int_private% "Numeral.value") n)
    (ha : ((text.takeWhile (· != 0)).length == text.length) = true) (h : Q (.int n s.toks) { s with toks := s.toks + 1 }) :
    wpAny M A ((int_private% "intFromText") v text 10) Q E s := by
  obtain ⟨hp, g, d, tk, os⟩ := s
  obtain ⟨mc, hns, hnone⟩ := hn
  repeat (any_goals (first
    | assumption
    | (with_reducible refine wpAny_ite_false (decide_eq_false hs) ?_)
    | (with_reducible refine wpAny_ite_true (decide_eq_true ha) ?_)
    | (refine wpAny_nsGet hns ?_; rw [hnone])
    | wp_step))
  all_goals (try rw [hr])
  all_goals (try dsimp only)
  repeat (any_goals (first
    | assumption
    | (with_reducible refine wpAny_ite_true (decide_eq_true ha) ?_)
    | wp_step))

structure Shut (p : Prop) : Prop where
  out : p
set_option maxHeartbeats 4000000 in
theorem meets_text {x : PySem.Str} {u : Tok} {n : Int} (hs : ¬ (numSeenOf x).length ≤ 640) (hl : x.length ≤ sizeLine) (hn : PySem.intText? x = some n) :
    Meets (Builtin.«int.__new__» ⟨[.type "int", .str x u], []⟩) (fun _ R s => s.heap.NoDigits ∧ R (.ok (.ret (.int n s.toks))) { s with toks := s.toks + 1 }) :=
  .of_wp fun prog w A R s hh => by
    obtain ⟨hN, h⟩ := hh
    obtain ⟨hp, g, d, tk, os⟩ := s
    have f1 := F.conv_sub_int
    have f2 := F.madeHere_int
    have f3 := KIN.str_int
    have f4 := KIN.str_idx
    have f5 := KIN.str_trunc
    have f6 : typeOf (.str x u) = pure (.type "str") := rfl
    have hr : (int_private% "readNumeral") 4300 10 (numSeenOf x) = (int_private% "Numeral.value") n ∧ ((numSeenOf x).length == (numTextOf x).length) = true := by
      rcases read4300 x hl with ⟨m, h1, h2, h3⟩ | ⟨h1, _⟩
      · rw [hn] at h1
        injection h1 with h1
        subst h1
        exact ⟨h3, h2⟩
      · rw [hn] at h1
        cases h1
    have hk := Shut.mk (And.intro hN (And.intro hs hr))
    clear hs hr hl hn hN
    repeat (any_goals (first
      | assumption
      | ((with_reducible show wpAny _ _ ((int_private% "intFromText") _ _ _) _ _ _); refine text_in hk.out.1 hk.out.2.1 hk.out.2.2.1 hk.out.2.2.2 ?_)
      | wp_step))
    all_goals first | exact ⟨_, rfl, h⟩ | skip

/-- int of a text of figures, of any length below the limit -/
theorem call_figures {prog : Program} {w : World} {A : Around} {E : Value → Shared → Prop} {s : Shared} {Q : Value → Shared → Prop} {x : PySem.Str} {t : Tok} (hN : s.heap.NoDigits) (hd : AllDigits x.cps.toList) (hne : x.cps.toList ≠ []) (hl : x.length ≤ 4300)
    (h : Q (.int (digitsVal x.cps.toList : Nat) s.toks) { s with toks := s.toks + 1 }) : wpAny (model prog w) A (call (.type "int") [.str x t]) Q E s := by
  have hn := intText_digits hd hne hl
  by_cases hs : (numSeenOf x).length ≤ 640
  · have e : numSeenOf x = x.cps.toList := (numText_signs fun c hc => Or.inr (hd c hc)).2
    rw [e] at hs
    exact KIN.call_text hn (Nat.le_trans (Nat.le_of_eq (show x.length = x.cps.toList.length from Array.length_toList.symm)) hs) h
  · exact call_int_1 (meets_text hs (by rw [sizeLine_eq]; omega) hn) ⟨hN, rfl, h⟩
end Mine

end

theorem Mine.top_off_R1 : True := by
  w_top off
  trivial

section
open PySem PySem.W PyProof.Rows
namespace Mine
abbrev LETTERS : Str := PySem.Str.ofString "ABCDEFGHIJKLMNOPQRSTUVWXYZ"
abbrev DIGITS : Str := PySem.Str.ofString "0123456789"

structure Figs (x : Str) : Prop where
  all : NumText.AllDigits (li x)
  ne : li x ≠ []
  len : x.length ≤ 4000
def val (x : Str) : Int := (NumText.digitsVal (li x) : Nat)

theorem ne_of_false {b : Bool} (h : b = false) : ¬ b = true := by rw [h]; decide

theorem li_digits : li DIGITS = [48, 49, 50, 51, 52, 53, 54, 55, 56, 57] := by decide +kernel
theorem digit_iff (c : Nat) : (li DIGITS).contains c = true ↔ 48 ≤ c ∧ c ≤ 57 := by
  rw [show li DIGITS = List.range' 48 10 from by rw [li_digits]; decide, List.contains_iff_mem, List.mem_range'_1]
  omega

theorem run_li {x : Str} {b : Int} {d : Str} (h0 : 0 ≤ b) : li (Txt.slice x (some b) (some (runOf x b d))) = ((li x).drop b.toNat).takeWhile fun c => (li d).contains c := by
  rw [slice_li h0 (runOf_ge x b d)]
  have e : (runOf x b d - b).toNat = (((li x).drop b.toNat).takeWhile fun c => (li d).contains c).length := by unfold runOf; omega
  rw [e]
  exact (List.prefix_iff_eq_take.mp (List.takeWhile_prefix _)).symm

theorem mem_takeWhile {p : Nat → Bool} : ∀ {l : List Nat} {c : Nat}, c ∈ l.takeWhile p → p c = true
  | [], _, h => nomatch h
  | a :: l, c, h => by
    rw [List.takeWhile_cons] at h
    split at h
    · rcases List.mem_cons.mp h with rfl | h
      · assumption
      · exact mem_takeWhile h
    · cases h

theorem all_run {x : Str} {b : Int} (h0 : 0 ≤ b) : NumText.AllDigits (li (Txt.slice x (some b) (some (runOf x b DIGITS)))) := by
  rw [run_li h0]
  intro c hc
  exact (digit_iff c).mp (mem_takeWhile hc)

theorem figs_run {x : Str} {b : Int} (h0 : 0 ≤ b) (hx : x.length ≤ 4000) (hne : runOf x b DIGITS ≠ b) : Figs (Txt.slice x (some b) (some (runOf x b DIGITS))) where
  all := all_run h0
  ne := by
    rw [run_li h0]
    intro e
    apply hne
    unfold runOf
    rw [e]
    simp
  len := Nat.le_trans (Txt.slice_le _ _ _) hx

theorem slice_len {x : Str} {i j : Int} (h0 : 0 ≤ i) (h1 : i ≤ j) (h2 : j ≤ x.length) : ((Txt.slice x (some i) (some j)).length : Int) = j - i := by
  have e := congrArg List.length (slice_li (x := x) h0 h1)
  rw [li_len, List.length_take, List.length_drop, li_len] at e
  omega

theorem figs_app {a b : Str} (h : Figs a) (hb : NumText.AllDigits (li b)) (hl : a.length + b.length ≤ 4000) : Figs (a ++ b) where
  all := by
    rw [li_app]
    intro c hc
    rcases List.mem_append.mp hc with hc | hc
    · exact h.all c hc
    · exact hb c hc
  ne := by
    rw [li_app]
    intro e
    exact h.ne (List.append_eq_nil_iff.mp e).1
  len := by rw [Str.length_append]; exact hl

theorem figs_no {x : Str} {i : Int} (h0 : 0 ≤ i) (hx : x.length ≤ 4000) (hne : runOf x i DIGITS ≠ i) : Figs (Txt.slice x (some i) (some (runOf x i DIGITS)) ++ Str.ofString "") :=
  figs_app (figs_run h0 hx hne) (fun c hc => absurd hc (by simp [show li (Str.ofString "") = [] from by decide +kernel])) (by
    have : (Str.ofString "").length = 0 := by decide +kernel
    have := Txt.slice_le x (some i) (some (runOf x i DIGITS))
    omega)

theorem figs_pt {x : Str} {i : Int} (h0 : 0 ≤ i) (hi : i ≤ x.length) (hx : x.length ≤ 4000) (hne : runOf x i DIGITS ≠ i) (h1 : runOf x i DIGITS < x.length) :
    Figs (Txt.slice x (some i) (some (runOf x i DIGITS)) ++ Txt.slice x (some (runOf x i DIGITS + 1)) (some (runOf x (runOf x i DIGITS + 1) DIGITS))) := by
  have g := runOf_ge x i DIGITS
  have g' := runOf_ge x (runOf x i DIGITS + 1) DIGITS
  have l := runOf_le (x := x) (i := runOf x i DIGITS + 1) (d := DIGITS) (by omega) (by omega)
  refine figs_app (figs_run h0 hx hne) (all_run (by omega)) ?_
  have e1 := slice_len (x := x) h0 g (by omega)
  have e2 := slice_len (x := x) (i := runOf x i DIGITS + 1) (by omega) g' l
  omega
end Mine

end

theorem Mine.top_off_P1 : True := by
  w_top off
  trivial

section
open PySem PySem.W PyProof.Rows
namespace Mine
theorem run_start {x d : Str} {i : Int} (h1 : i ≤ x.length) : i ≤ i ∧ i ≤ (x.length : Int) ∧ runOf x i d = runOf x i d := ⟨Int.le_refl _, h1, rfl⟩
theorem run_step {x d : Str} {i k : Int} (h0 : 0 ≤ i) (ha : i ≤ k) (h : runOf x k d = runOf x i d) (h1 : k < x.length) (ho : (Builtin.Str.occurrences d (Txt.item x k) 0 d.length 1).isEmpty = false) :
    i ≤ k + 1 ∧ k + 1 ≤ (x.length : Int) ∧ runOf x (k + 1) d = runOf x i d := ⟨by omega, by omega, (runOf_in (by omega) h1 ho).trans h⟩
set_option maxRecDepth 100000 in
set_option maxHeartbeats 8000000 in
theorem run_of_says (x d : Str) (i : Int) (t1 t2 t3 : Tok) (hp : 0 ≤ i ∧ i ≤ x.length ∧ x.length ≤ 4000) : Says 1 62 [.str x t1, .int i t2, .str d t3] (fun _ _ => True) (OutI (runOf x i d) (i ≤ runOf x i d ∧ runOf x i d ≤ x.length)) Never := by
  have kk : (PySem.Challenge.rw_pf0117_01 = PySem.Challenge.rw_pf0117_01 ∧ Mine.hd.heap_1 = Mine.hd.heap_1) → True := by
    k_fill
    intro _; trivial
  clear kk
  unfold Says
  intro w mean mg mb dp un gd cn cs a ccd cl outer A₀ base h₀ L m news s Q E B F X N T hk hpre hdp hun hret hbad
  obtain ⟨h0, h1, hx⟩ := hp
  refine wpAny_call ?_
  k_dflt cell_enter
  k_with_none
  k_with "state" => first | exact run_start h1 | exact run_step h0 (by assumption) (by assumption) (by assumption) (by assumption)
  k_with "exec While BoolOp cons nil" => k_while (fun (_ : List Int) (e : Int) => i ≤ e ∧ e ≤ (x.length : Int) ∧ runOf x e d = runOf x i d) (fun (_ : List Int) (e : Int) => (x.length - e.toNat)) "end"
  k_steps
  all_goals (try dsimp only at *)
  all_goals (refine hret _ [] _ _ (by assumption) (news_nil (by assumption)) ?_)
  · exact out_int ((runOf_out (by omega) (by assumption) (by assumption)).symm.trans (by assumption)) ⟨runOf_ge _ _ _, runOf_le h0 h1⟩
  · exact out_int ((runOf_end (by assumption)).symm.trans (by assumption)) ⟨runOf_ge _ _ _, runOf_le h0 h1⟩
end Mine

end

theorem Mine.top_off_T1 : True := by
  w_top off
  trivial

section
open PySem PySem.W PyProof.Rows Builtin.Str
namespace Mine
abbrev NOUGHT : Str := Str.ofString "0"
theorem nought_li : NOUGHT.cps = #[48] := by decide +kernel
theorem nought_has (c : Nat) : NOUGHT.cps.contains c = (c == 48) := by
  rw [nought_li]
  by_cases h : c = 48
  · subst h; simp
  · have e : (c == 48) = false := by simpa using h
    rw [e]; simpa using h
theorem strip_any (l r : Bool) (x : Str) : li (Txt.stripBy NOUGHT.cps.contains l r x) = ((li x).drop (stripLo NOUGHT.cps.contains l x)).take (stripHi NOUGHT.cps.contains r x (stripLo NOUGHT.cps.contains l x) - stripLo NOUGHT.cps.contains l x) := by
  have e : Txt.stripBy NOUGHT.cps.contains l r x = strSub x (stripLo NOUGHT.cps.contains l x) (stripHi NOUGHT.cps.contains r x (stripLo NOUGHT.cps.contains l x)) := PyProof.Rows.stripBy_eq _ _ _ _
  rw [e]; exact StrLaws.strSub_toList _ _ _
theorem fun_has : NOUGHT.cps.contains = fun c => c == 48 := funext nought_has
theorem lstrip_id {x : Str} {c : Nat} {r : List Nat} (h : li x = c :: r) (hc : c ≠ 48) : Txt.lstripChars x NOUGHT = x := str_eq (by
  have lo : stripLo NOUGHT.cps.contains true x = 0 := by
    show ((li x).takeWhile _).length = 0
    rw [h, List.takeWhile_cons, nought_has, if_neg (by simpa using hc)]; rfl
  unfold Txt.lstripChars
  rw [strip_any, lo]
  show ((li x).drop 0).take (x.length - 0) = _
  rw [List.drop_zero, Nat.sub_zero, ← li_len, List.take_length])
theorem lstrip_one {x : Str} {c : Nat} {r : List Nat} (h : li x = 48 :: c :: r) (hc : c ≠ 48) : li (Txt.lstripChars x NOUGHT) = c :: r := by
  have lo : stripLo NOUGHT.cps.contains true x = 1 := by
    show ((li x).takeWhile _).length = 1
    rw [h, List.takeWhile_cons, nought_has, if_pos (by decide), List.takeWhile_cons, nought_has, if_neg (by simpa using hc)]; rfl
  unfold Txt.lstripChars
  rw [strip_any, lo]
  show ((li x).drop 1).take (x.length - 1) = _
  rw [← li_len, h]
  simp
theorem rstrip_id {x : Str} {c : Nat} {r : List Nat} (h : li x = r ++ [c]) (hc : c ≠ 48) : Txt.rstripChars x NOUGHT = x := str_eq (by
  have lo : stripLo NOUGHT.cps.contains false x = 0 := rfl
  have hi : stripHi NOUGHT.cps.contains true x 0 = x.length := by
    show x.length - (((li x).drop 0).reverse.takeWhile _).length = _
    rw [h, List.drop_zero, List.reverse_append]
    show x.length - ((c :: r.reverse).takeWhile _).length = _
    rw [List.takeWhile_cons, nought_has, if_neg (by simpa using hc)]; rfl
  unfold Txt.rstripChars
  rw [strip_any, lo, hi, List.drop_zero, Nat.sub_zero, ← li_len, List.take_length])
theorem strip_zero {x : Str} (h : li x = [48]) : (Txt.stripChars x NOUGHT == Str.ofString "") = true := by
  have e : x = ⟨#[48]⟩ := str_eq h
  subst e
  decide +kernel
theorem strip_head {x : Str} {c : Nat} {r : List Nat} (h : li x = c :: r) (hc : c ≠ 48) : (Txt.stripChars x NOUGHT == Str.ofString "") = false := by
  have lo : stripLo NOUGHT.cps.contains true x = 0 := by
    show ((li x).takeWhile _).length = 0
    rw [h, List.takeWhile_cons, nought_has, if_neg (by simpa using hc)]; rfl
  have hl : x.length = r.length + 1 := by rw [← li_len, h]; rfl
  have hi : 0 < stripHi NOUGHT.cps.contains true x 0 := by
    show 0 < x.length - (((li x).drop 0).reverse.takeWhile _).length
    rw [List.drop_zero, h, List.reverse_cons, fun_has]
    have : ((r.reverse ++ [c]).takeWhile fun c => c == 48).length < (r.reverse ++ [c]).length := by
      have h1 := List.takeWhile_append_dropWhile (p := fun c => c == 48) (l := r.reverse ++ [c])
      rcases Nat.lt_or_ge ((r.reverse ++ [c]).takeWhile fun c => c == 48).length (r.reverse ++ [c]).length with q | q
      · exact q
      · exfalso
        have h2 : (r.reverse ++ [c]).takeWhile (fun c => c == 48) = r.reverse ++ [c] := (List.takeWhile_prefix _).eq_of_length_le q
        have h3 := mem_takeWhile (p := fun c => c == 48) (l := r.reverse ++ [c]) (c := c) (by rw [h2]; simp)
        simp at h3
        exact hc h3
    rw [List.length_append, List.length_reverse] at this
    simp at this
    omega
  cases e : (Txt.stripChars x NOUGHT == Str.ofString "") with
  | false => rfl
  | true =>
    exfalso
    have e' := congrArg li (eq_of_beq e)
    unfold Txt.stripChars at e'
    rw [strip_any, lo, List.drop_zero, Nat.sub_zero, h] at e'
    have h0 : li (Str.ofString "") = [] := by decide +kernel
    rw [h0] at e'
    have hz := congrArg List.length e'
    rw [List.length_take] at hz
    simp at hz
    omega
end Mine

end

theorem Mine.top_off_P2 : True := by
  w_top off
  trivial

section
open PySem PySem.W PyProof.Rows Builtin.Str
namespace Mine
theorem dig_ne (n : Nat) (h0 : 0 < n) (h1 : n < 10) : (Nat.digitChar n).toNat ≠ 48 := by
  have : n = 1 ∨ n = 2 ∨ n = 3 ∨ n = 4 ∨ n = 5 ∨ n = 6 ∨ n = 7 ∨ n = 8 ∨ n = 9 := by omega
  rcases this with h | h | h | h | h | h | h | h | h <;> subst h <;> decide
theorem core_head : ∀ (fuel n : Nat) (ds : List Char), 0 < n → n < fuel → ∃ c r, Nat.toDigitsCore 10 fuel n ds = c :: r ∧ c.toNat ≠ 48
  | 0, n, ds, _, h => absurd h (Nat.not_lt_zero _)
  | fuel + 1, n, ds, h0, h => by
    unfold Nat.toDigitsCore
    by_cases e : n / 10 = 0
    · rw [if_pos e]
      refine ⟨_, _, rfl, ?_⟩
      have : n < 10 := by omega
      rw [Nat.mod_eq_of_lt this]
      exact dig_ne n h0 this
    · rw [if_neg e]
      exact core_head fuel (n / 10) _ (by omega) (by omega)
theorem num_head {n : Int} (h : 0 < n) : ∃ c r, li (Str.ofString (toString n)) = c :: r ∧ c ≠ 48 := by
  obtain ⟨k, rfl⟩ := Int.eq_ofNat_of_zero_le (Int.le_of_lt h)
  obtain ⟨c, r, e, hc⟩ := core_head (k + 1) k [] (by omega) (by omega)
  refine ⟨c.toNat, r.map Char.toNat, ?_, hc⟩
  have t := text_ofNat k
  show li (Str.ofString (toString (Int.ofNat k))) = _
  rw [t]
  show (Nat.toDigits 10 k).map Char.toNat = _
  have e' : Nat.toDigits 10 k = c :: r := e
  rw [e']; rfl
theorem slice_to {x : Str} {j : Int} (h0 : j < 0) (h1 : -(x.length : Int) ≤ j) : li (Txt.slice x none (some j)) = (li x).take (j + x.length).toNat := by
  rw [eq_of_beq (slice_closes_to_neg h0 h1 rfl)]
  show ((li x).drop (0 : Int).toNat).take _ = _
  simp
theorem slice_from {x : Str} {i : Int} (h0 : i < 0) (h1 : -(x.length : Int) ≤ i) : li (Txt.slice x (some i) none) = (li x).drop (i + x.length).toNat := by
  rw [eq_of_beq (slice_closes_from_neg h0 h1 rfl rfl)]
  show ((li x).drop _).take _ = _
  rw [List.take_of_length_le]
  rw [List.length_drop, li_len]
  omega
abbrev rj (x : Str) (k : Int) : Str := Txt.rjustF x k ((Str.ofString "0").cps.getD 0 0)
theorem rj_big {x : Str} {k : Int} (h : k ≤ x.length) : rj x k = x := if_pos h
theorem rj_li (x : Str) (k : Int) : li (rj x k) = List.replicate (k.toNat - x.length) 48 ++ li x := rjustF_list x k _
theorem rj_len {x : Str} {k : Int} (h : (x.length : Int) ≤ k) : ((rj x k).length : Int) = k := by
  rw [← li_len, rj_li, List.length_append, List.length_replicate, li_len]; omega
end Mine

end

theorem Mine.top_off_P3 : True := by
  w_top off
  trivial

section
open PySem PySem.Spec PySem.Calls PyProof.Rows
namespace Mine
section
variable {prog : Program} {w : World} {A : Around} {E : Value → Shared → Prop} {s : Shared} {h₀ : Heap} {L : Addr} {m : Str → Option Value} {env : Env}
/-- a range of any step, and what its comprehension needs -/
def SrcStep (prog : Program) (w : World) (A : Around) (h₀ : Heap) (L : Addr) (m : Str → Option Value) (env : Env) (elt : Expr) (x : Str) (scope : Scope) (cl : List (Str × Addr)) (Fin : Shared → List Value → List (Addr × Obj) → Prop) (xv : Value) (s₁ : Shared) : Prop :=
  ∃ r a b c t u v n news, xv = .ref r ∧ A.handled = none ∧ Fr h₀ L s₁.heap m ∧ News h₀ L s₁.heap news ∧ IsRange s₁.heap r a b c t u v ∧ Builtin.Range.small a b c = true ∧ Builtin.Range.rangeSize a b c = ((n : Nat) : Int) ∧ n ≤ sizeLine ∧
    ∀ s₂ : Shared, (∃ h, s₂ = { s₁ with heap := h }) → LCg.CompRest prog w A h₀ L m env elt x scope cl s₂ (fun _ => True) (fun i v => ∃ t, v = .int (a + (i : Int) * c) t) (Fin s₂) n 0 [] news

theorem step_walks {I : Addr} (hh : A.handled = none) (a c : Int) (n : Nat) : Walks prog w A I [I] [I] n (fun i v => ∃ t, v = .int (a + (i : Int) * c) t) (fun i h => IsRangeIter h I (a + (i : Nat) * c) ((n : Int) - (i : Nat)) c) :=
  let W : Walks prog w A I [I] [I] n (fun i v => i < n ∧ ∃ t, v = .int (a + i * c) t) (fun i h => IsRangeIter h I (a + (i : Nat) * c) ((n : Int) - (i : Nat)) c) := (Walks.range hh I a c n).bound
  { sub := W.sub, frame := W.frame, done := W.done, self := W.self,
    item := fun i s Q E hi st hQ => W.item i s Q E hi st fun v h' tk hP => hQ v h' tk hP.2 }
theorem step_st {I : Addr} {a c : Int} {n : Nat} : ∀ i (h h' : Heap) (o : Obj) (nw : List (Addr × Obj)), IsRangeIter h I (a + (i : Nat) * c) ((n : Int) - (i : Nat)) c → h.get? I = some o → h'.get? I = some o → (∀ b o, h₀.get? b = some o → h'.get? b = some o) → News h₀ L h' nw → True → IsRangeIter h' I (a + (i : Nat) * c) ((n : Int) - (i : Nat)) c :=
  fun i h h' o nw st e e' _ _ _ => by
    have st' : h.get? I = some _ := st
    show h'.get? I = some _
    rw [e', ← e]; exact st'
theorem comp_step {elt iter : Expr} {x : Str} {px : Pos} {scope : Scope} {cl : List (Str × Addr)} {pos : Pos} {Q : Value → Shared → Prop}
    (F₀ : Fr h₀ L s.heap m) (hclos : closureFor scope env = pure cl) (hcell : ∀ y ∈ scope.names, y.2 ≠ .cell) (hkind : scope.kind = .function)
    (hnames : ∀ y ∈ scope.names, y.2 = .local → scope.names.lookup y.1 = some .local) (hx : scope.names.lookup x = some .local)
    (h : wpAny (model prog w) A (eval iter env) (SrcStep prog w A h₀ L m env elt x scope cl (fun s₂ => LCg.FinE h₀ L m s₂ Q)) E s)
    (hs : ∀ x, foldedSetIterable iter env x = pure x := by intro _; rfl) :
    wpAny (model prog w) A (eval (.ListComp elt [⟨.Name x px, iter, [], 0⟩] scope pos) env) Q E s := by
  rw [eval_ListComp]
  refine wpAny_comprehension_free (use := none) rfl hs hclos hkind hnames (wpAny_mono h (fun xv s₁ h₁ => ?_) fun _ _ e => e)
  obtain ⟨r, a, b, c, t, u, v, n, news, rfl, hh, F, N, hr, hsm, hn, hsz, R⟩ := h₁
  refine wpAny_pyIter_range hr hsm ?_
  refine LCg.block_U (step_walks hh a c n) hsz (fun i h st => ⟨_, st⟩) step_st hcell hkind hx (by show IsRangeIter _ _ _ _ _; rw [hn]; simpa using Heap.get?_push_size _ rfl) (fun b hb => ?_)
    (F.keeps fun _ _ e => Heap.get?_push_of_some _ e) (N.grown fun _ _ e => Heap.get?_push_of_some _ e) (Nat.ne_of_lt F.ns.lt) (next_is_new F) (fun p hp => Nat.ne_of_lt (Heap.lt_size (N p hp).1)) trivial (R _ ⟨_, rfl⟩) ?_
  · rw [List.mem_singleton.mp hb]
    show s₁.heap.objs.size < (s₁.heap.push _).objs.size
    rw [Heap.size_push]; exact Nat.lt_succ_self _
  · intro D C h tk m' ys news' F' N' o1 hn hC₀ hD₀ hCL hDL hCD offC fin
    refine ⟨m', hn, fun h'' hs'' => fin D h'' tk (F'.change hs'' hCL hC₀) (fun p hp => ?_) o1⟩
    refine ⟨hs''.extBut _ _ ?_ (N' p hp).1, (N' p hp).2⟩
    rcases List.mem_cons.mp hp with rfl | hp
    · exact Ne.symm hCD
    · exact offC p hp
end
end Mine

end

theorem Mine.top_off_V1 : True := by
  w_top off
  trivial

local macro_rules | `(tactic| ktr_call $x:term 0) => `(tactic| ((k_dflt (first | refine' Mine.says_useI $x ?k1 ?k2 ?k3 ?k4 ?k5 ?kK ?kq ?kd ?ku ?_ | refine' Mine.says_useS $x ?k1 ?k2 ?k3 ?k4 ?k5 ?kK ?kq ?kd ?ku ?_)); k_dflt ((case k1 => k_asm); (case k2 => k_asm); (case k3 => k_asm); (case k4 => k_asm); (case k5 => k_asm); (case kK => first | exact rfl | assumption); (try (case kp => ((repeat' (refine And.intro ?_ ?_)) <;> first | assumption | omega | k_extra "size"))); (case kq => first | trivial | assumption); (case kd => ktr_room); (case ku => ktr_units); intro t9 h9 tk9 F9 N9 g9; (try (have g8 := g9.1; have g7 := g9.2; clear g9)); (try k_sweep); (try dsimp only); (try k_fold))))

section
open PySem PySem.W PyProof.Rows
namespace Mine
def digitS (sd a : Int) : Str := Str.ofString (toString ((sd + 3 * a).fmod 10))
def body12 (sd : Int) : Str := Txt.join (Str.ofString "") (List.map (digitS sd) (rangeKs 0 (12 - 0 : Int).toNat))
theorem ten_cases {P : Int → Prop} (h : P 0 ∧ P 1 ∧ P 2 ∧ P 3 ∧ P 4 ∧ P 5 ∧ P 6 ∧ P 7 ∧ P 8 ∧ P 9) (x : Int) : P (x.fmod 10) := by
  have h0 := Int.fmod_nonneg_of_pos x (b := 10) (by decide)
  have h1 := Int.fmod_lt_of_pos x (b := 10) (by decide)
  obtain ⟨a0, a1, a2, a3, a4, a5, a6, a7, a8, a9⟩ := h
  have : x.fmod 10 = 0 ∨ x.fmod 10 = 1 ∨ x.fmod 10 = 2 ∨ x.fmod 10 = 3 ∨ x.fmod 10 = 4 ∨ x.fmod 10 = 5 ∨ x.fmod 10 = 6 ∨ x.fmod 10 = 7 ∨ x.fmod 10 = 8 ∨ x.fmod 10 = 9 := by omega
  rcases this with h | h | h | h | h | h | h | h | h | h <;> rw [h] <;> assumption
theorem digitS_len (sd a : Int) : (digitS sd a).length = 1 := ten_cases (P := fun r => (Str.ofString (toString r)).length = 1) (by decide +kernel) _
theorem digitS_all (sd a : Int) : ∀ c ∈ li (digitS sd a), 48 ≤ c ∧ c ≤ 57 := ten_cases (P := fun r => ∀ c ∈ li (Str.ofString (toString r)), 48 ≤ c ∧ c ≤ 57) (by decide +kernel) _
theorem body12_len (sd : Int) : (body12 sd).length = 12 := by
  unfold body12
  rw [KT.join_ones _ (by intro a h; obtain ⟨k, _, rfl⟩ := List.mem_map.mp h; exact digitS_len sd k), List.length_map, rangeKs_length]
  rfl
theorem mul_bnd {mn : Int} (h : mn > 1) (h1 : mn ≤ 1001) : -(2 ^ 63 : Int) ≤ mn.fdiv 12 + 1 ∧ mn.fdiv 12 + 1 ≤ ((1048576 : Nat) : Int) := by
  rw [Int.fdiv_eq_ediv_of_nonneg _ (by decide)]
  omega
theorem mul_len {mn : Int} {x : Str} (h : mn > 1) (h1 : mn ≤ 1001) (e : 0 ≤ mn.fdiv 12 + 1 → (x.length : Int) = ((12 : Nat) : Int) * (mn.fdiv 12 + 1)) : x.length ≤ 2000 := by
  rw [Int.fdiv_eq_ediv_of_nonneg _ (by decide)] at e
  omega
def runText (sd mn : Int) : Str := if mn > 1 then Txt.slice (Str.ofString "7" ++ Txt.mul (body12 sd) (mn.fdiv 12 + 1)) none (some (mn - 1)) ++ Str.ofString "3" else Str.ofString "4"
local macro_rules | `(tactic| walk_at "eval ListComp") => `(tactic| (k_here; (k_dflt (refine LCg.ListComp_U (F₀ := by k_asm) (by with_unfolding_all rfl) (by decide) (by rfl) (by decide) (by rfl) ?_))))
local macro_rules | `(tactic| walk_at "CompSrc") => `(tactic| (k_here; (try k_fmods); (k_dflt (refine LCg.CompSrc.range (by rfl) (by k_asm) (by k_asm) (by assumption) (by first | decide | exact small_one (by l_bnd) (by l_bnd) (by l_bnd) (by l_bnd)) (by first | exact rangeSize_nat _ _ | rfl) (by first | exact Nat.le_of_ble_eq_true rfl | (rw [PySem.sizeLine_eq]; first | omega | ((have hb9 := len_ints_list (by lay_of)); omega)) | size_fits) ?_; intro g'; (refine' kct_range _ (fun k' t' I' oI' C' oC' D' m' ys' h' tk' E' hlo' hhi' hC' hx' F' N' off' ne' => ?_) ?_); (all_goals (try (simp only [LCg.Off3, and_true] at off'))); (all_goals (try ((show KPfMark → _); intro hMark'))); kcf_last))))
set_option maxRecDepth 100000 in
set_option maxHeartbeats 8000000 in
theorem law_run_says (sd mn : Int) (t u : Tok) (hp : 0 ≤ sd ∧ mn ≤ 1001) : Says 1 151 [.int sd t, .int mn u] (fun _ _ => True) (OutS (runText sd mn)) Never := by
  have kk : (PySem.Challenge.rw_pf0117_01 = PySem.Challenge.rw_pf0117_01 ∧ Mine.hd.heap_1 = Mine.hd.heap_1) → True := by
    k_fill
    intro _; trivial
  clear kk
  unfold Says
  intro w mean mg mb dp un gd cn cs a ccd cl outer A₀ base h₀ L m news s Q E B F X N T hk hpre hdp hun hret hbad
  obtain ⟨h0, h1⟩ := hp
  refine wpAny_call ?_
  k_dflt (refine' code_defC ?k1 ?k2 ?k3 ?k4 ?k5 ?kA ?kF ?kK ?k6 ?k7 ?k8 ?k9 ?kB ?kD ?_ ?c2 ?c3 ?c4; (case kA => exact rfl); (case kF => exact rfl); (case kK => first | exact rfl | assumption); (case k1 => k_asm); (case k2 => k_asm); (case k3 => k_asm); (case k4 => k_asm); (case k5 => k_asm); (case k6 => k_is); (case k7 => k_is); (case k8 => ktr_room); (case k9 => exact BindsTo.of_eq rfl); (case kB => exact rfl); (case kD => decide +kernel); (case c2 => exact rfl); (case c3 => exact rfl); (case c4 => exact rfl); k_whole; intro g' L' h' tk' cells' FG' F' N' Y' B' X' T' l1; (try k_lt l1); k_cells Y'; (try simp only [List.cons_append, List.nil_append] at N'); (try dsimp only); (try k_lift B'); (try k_fold))
  k_with_none
  k_with "CompEnd" => (k_dflt (refine' LCg.CompEnd.intro (by assumption) (by assumption) ?kn ?ks ?ko ?kS (kct_el ?ke ?kr rfl); (case ke => exact rfl); (case kr => exact rfl); (case ks => exact fun _ hp => hp); (case ko => first | assumption | (simp only [LCg.Off3, and_true]; assumption)); (case kS => first | lcg_src | assumption)))
  k_with "binaryOp Mult str int" => ((with_reducible show wpAny _ _ (binaryOp Operator.Mult (Value.str _ _) (Value.int _ _)) _ _ _); k_dflt (refine KXi.mul (body12_len sd) (by decide) (mul_bnd (by assumption) h1).1 (mul_bnd (by assumption) h1).2 ?_); intro _ _ kxiZ kxiN; have kml := mul_len (by assumption) h1 kxiN; clear kxiN kxiZ)
  k_with "binaryOp Add str str" => first
    | (k_dflt (refine KXadd.add (K := 1) (L := 2000) (by with_unfolding_all exact Nat.le_of_ble_eq_true rfl) kml (by decide) ?_); intro _ _ kad; have kad2 : _ ≤ 2001 := Nat.le_trans kad.2 (Nat.add_le_add (by with_unfolding_all exact Nat.le_of_ble_eq_true rfl) kml))
    | (k_dflt (refine KXadd.add (K := 2001) (L := 1) (Nat.le_trans (Txt.slice_le _ _ _) kad2) (by with_unfolding_all exact Nat.le_of_ble_eq_true rfl) (by decide) ?_); intro _ _ _)
  k_steps
  all_goals (with_reducible rename News _ L _ _ => kN9)
  · exact hret _ [] _ _ (by assumption) (fun p hp => kN9 p (by repeat (first | exact hp | apply List.Mem.tail))) (out_str (if_pos (by assumption)).symm trivial)
  · exact hret _ [] _ _ (by assumption) (fun p hp => kN9 p (by repeat (first | exact hp | apply List.Mem.tail))) (out_str (if_neg (by assumption)).symm trivial)
end Mine

end

theorem Mine.top_off_U2 : True := by
  w_top off
  trivial

local macro_rules | `(tactic| ktr_unf) => `(tactic| (repeat (first | ((refine (if_pos ?ih).trans ?_); (case ih => assumption)) | ((refine (if_neg ?ih).trans ?_); (case ih => first | assumption | exact Mine.ne_of_false (by assumption))) | k_extra "unfold")))

section
open PySem PySem.W PyProof.Rows
namespace Mine
local macro_rules | `(tactic| walk_at "eval ListComp") => `(tactic| (k_here; k_dflt (refine comp_step (by k_asm) (by with_unfolding_all rfl) (by decide) (by rfl) (by decide) (by rfl) ?_)))
def chunks (b : Str) : Nat := (Builtin.Range.rangeSize 0 (b.length : Int) 9).toNat
def cuts (b : Str) : List Int := (List.range (chunks b)).map fun i : Nat => (0 : Int) + (i : Int) * 9
def chunk (b : Str) (k : Int) : Str := Txt.slice b (some k) (some (k + 9))
theorem cuts_len (b : Str) : (cuts b).length = chunks b := by simp [cuts]
theorem cuts_at (b : Str) (i : Nat) (v : Value) (hi : i < chunks b) (h : ∃ t, v = .int ((0 : Int) + (i : Int) * 9) t) : ∃ k t, (cuts b)[i]? = some k ∧ v = .int k t := by
  obtain ⟨t, rfl⟩ := h
  exact ⟨_, t, by simp [cuts, hi], rfl⟩
theorem fits_long {x : Int} (a : -10000 ≤ x) (b : x ≤ 10000) : Builtin.Range.rangeFitsLong x = true := by
  have c1 : -(2 ^ 63 : Int) ≤ -10000 := by decide
  have c2 : (10000 : Int) < 2 ^ 63 := by decide
  unfold Builtin.Range.rangeFitsLong
  rw [Bool.and_eq_true, decide_eq_true_eq, decide_eq_true_eq]
  omega
theorem small_nine {b : Str} (h : b.length ≤ 1010) : Builtin.Range.small 0 (b.length : Int) 9 = true := by
  have e : Builtin.Range.rangeSize 0 (b.length : Int) 9 = (if (0 : Int) < (b.length : Int) then ((b.length : Int) - 0 - 1) / 9 + 1 else 0) := by
    unfold Builtin.Range.rangeSize
    rw [if_pos (by decide)]
  have e2 : 0 ≤ Builtin.Range.rangeSize 0 (b.length : Int) 9 ∧ Builtin.Range.rangeSize 0 (b.length : Int) 9 ≤ 2000 := by
    rw [e]; split <;> omega
  unfold Builtin.Range.small
  rw [fits_long (x := 0) (by omega) (by omega), fits_long (x := (b.length : Int)) (by omega) (by omega), fits_long (x := 9) (by omega) (by omega), fits_long (x := Builtin.Range.rangeSize 0 (b.length : Int) 9) (by omega) (by omega), if_pos (by decide),
    fits_long (x := (b.length : Int) + (9 - 1)) (by omega) (by omega), Bool.or_true]
  rfl
theorem chunks_size {b : Str} (h : b.length ≤ 1010) : chunks b ≤ sizeLine := by
  have : (5000 : Nat) ≤ sizeLine := by decide
  unfold chunks Builtin.Range.rangeSize
  rw [if_pos (by decide)]
  split <;> omega
theorem carried_at {f : Int → Str} : ∀ (ks : List Int) {vs : List Value} {i : Nat} {v : Value}, CarriedAll vs (ks.map fun k => PyData.str (f k)) → vs[i]? = some v → ∃ k t, ks[i]? = some k ∧ v = .str (f k) t
  | [], vs, i, v, h, hv => by
    cases h
    simp at hv
  | k :: ks, vs, i, v, h, hv => by
    rw [List.map_cons] at h
    cases h with
    | cons a r =>
      cases i with
      | zero =>
        cases a
        simp at hv
        exact ⟨k, _, rfl, hv.symm⟩
      | succ i =>
        obtain ⟨k', t, e, e'⟩ := carried_at ks (i := i) (v := v) r (by simpa using hv)
        exact ⟨k', t, by simpa using e, e'⟩
theorem carried_len : ∀ {vs : List Value} {ks : List Int} {f : Int → Str}, CarriedAll vs (ks.map fun k => PyData.str (f k)) → vs.length = ks.length
  | _, [], _, h => by cases h; rfl
  | _, k :: ks, f, h => by
    cases h with
    | cons a r => rw [List.length_cons, List.length_cons, carried_len r]
/-- the value of the figures ahead of the chunk i -/
def pv (b : Str) (i : Nat) : Int := ((NumText.digitsVal ((li b).take (9 * i)) : Nat) : Int)
abbrev ledgerOf {h₀ h : Heap} {L : Addr} {news : Led} (_ : News h₀ L h news) : Led := news
def PairJ (b : Str) (p : Int) (u : Tok) (nx₀ : Led) (i : Nat) (m : Str → Option Value) (nx : Led) : Prop :=
  nx = nx₀ ∧ ∃ (mv : Int) (tm tb : Tok) (w : Str → Option Value), m = (fun y => if y = Str.ofString "m" then some (.int mv tm) else if y = Str.ofString "bare" then some (.str b tb) else if y = Str.ofString "power" then some (.int p u) else w y) ∧ mv = pv b i
theorem map3' {m : Str → Option Value} {a b c : Str} {va vb vc : Option Value} (ha : m a = va) (hb : m b = vb) (hc : m c = vc) : m = fun y => if y = a then va else if y = b then vb else if y = c then vc else m y := by
  funext y
  by_cases h1 : y = a
  · rw [if_pos h1, h1, ha]
  · rw [if_neg h1]
    by_cases h2 : y = b
    · rw [if_pos h2, h2, hb]
    · rw [if_neg h2]
      by_cases h3 : y = c
      · rw [if_pos h3, h3, hc]
      · rw [if_neg h3]
theorem cut_is {b : Str} {i : Nat} {k : Int} (h : (cuts b)[i]? = some k) : k = 9 * i ∧ i < chunks b := by
  unfold cuts at h
  rw [List.getElem?_map] at h
  cases e : (List.range (chunks b))[i]? with
  | none => rw [e] at h; simp at h
  | some j =>
    rw [e] at h
    obtain ⟨hj, e'⟩ := List.getElem?_eq_some_iff.mp e
    rw [List.getElem_range] at e'
    rw [List.length_range] at hj
    simp at h
    exact ⟨by omega, hj⟩
theorem chunk_bnd {b : Str} {i : Nat} (h : i < chunks b) : 9 * i < b.length := by
  unfold chunks Builtin.Range.rangeSize at h
  rw [if_pos (by decide)] at h
  split at h <;> omega
theorem chunks_all (b : Str) : b.length ≤ 9 * chunks b := by
  unfold chunks Builtin.Range.rangeSize
  rw [if_pos (by decide)]
  split <;> omega
theorem chunk_li (b : Str) (i : Nat) : li (chunk b (9 * (i : Int))) = ((li b).drop (9 * i)).take 9 := by
  unfold chunk
  rw [slice_li (by omega) (by omega)]
  have e1 : (9 * (i : Int)).toNat = 9 * i := by omega
  have e2 : (9 * (i : Int) + 9 - 9 * (i : Int)).toNat = 9 := by omega
  rw [e1, e2]
theorem chunk_len (b : Str) (i : Nat) : (chunk b (9 * (i : Int))).length ≤ 9 := by
  rw [← li_len, chunk_li]
  exact List.length_take_le _ _
theorem pow_bits : ∀ n : Nat, n ≤ 9 → Builtin.Int.intBits ((10 : Int) ^ ((n : Int)).toNat) ≤ 64 := by
  intro n h
  have : n = 0 ∨ n = 1 ∨ n = 2 ∨ n = 3 ∨ n = 4 ∨ n = 5 ∨ n = 6 ∨ n = 7 ∨ n = 8 ∨ n = 9 := by omega
  rcases this with h | h | h | h | h | h | h | h | h | h <;> subst h <;> decide
theorem chunk_figs {b : Str} {i : Nat} (f : Figs b) (h : i < chunks b) : Figs (chunk b (9 * (i : Int))) where
  all := by
    rw [chunk_li]
    intro c hc
    exact f.all c (List.mem_of_mem_drop (List.mem_of_mem_take hc))
  ne := by
    rw [chunk_li]
    intro e
    have e' := congrArg List.length e
    rw [List.length_take, List.length_drop, li_len] at e'
    have := chunk_bnd h
    simp at e'
    omega
  len := Nat.le_trans (chunk_len b i) (by decide)
theorem dv_from : ∀ (c : List Nat) (n : Nat), c.foldl (fun acc c => acc * 10 + (c - 48)) n = n * 10 ^ c.length + NumText.digitsVal c
  | [], n => by simp [NumText.digitsVal]
  | a :: c, n => by
    unfold NumText.digitsVal
    rw [List.foldl_cons, List.foldl_cons, dv_from c, dv_from c, List.length_cons]
    rw [Nat.pow_succ, Nat.add_mul, Nat.zero_mul, Nat.zero_add]
    have : n * 10 * 10 ^ c.length = n * (10 ^ c.length * 10) := by rw [Nat.mul_assoc, Nat.mul_comm 10]
    rw [this]
    omega
theorem dv_app (a c : List Nat) : NumText.digitsVal (a ++ c) = NumText.digitsVal a * 10 ^ c.length + NumText.digitsVal c := by
  show (a ++ c).foldl _ 0 = _
  rw [List.foldl_append]
  exact dv_from c _
theorem pv_step (b : Str) (i : Nat) : pv b i * 10 ^ (chunk b (9 * (i : Int))).length + val (chunk b (9 * (i : Int))) = pv b (i + 1) := by
  unfold pv val
  have e : (li b).take (9 * (i + 1)) = (li b).take (9 * i) ++ li (chunk b (9 * (i : Int))) := by
    rw [chunk_li, Nat.mul_succ, List.take_add]
  rw [e, dv_app, ← li_len]
  push_cast
  rfl
theorem pv_end (b : Str) : pv b (chunks b) = val b := by
  unfold pv val
  rw [List.take_of_length_le (by rw [li_len]; exact chunks_all b)]
set_option maxRecDepth 100000 in
set_option maxHeartbeats 8000000 in
theorem law_pair_says (x b : Str) (p : Int) (t u : Tok) (hp : Txt.lstripChars x NOUGHT = b ∧ Txt.rstripChars b NOUGHT = b ∧ Figs b ∧ b.length ≤ 1010 ∧ x.length ≤ 1020 ∧ (b == Str.ofString "") = false) : Says 1 156 [.str x t, .int p u] (fun _ _ => True) (OutQ (val b) p) Never := by
  have kk : (PySem.Challenge.rw_pf0117_01 = PySem.Challenge.rw_pf0117_01 ∧ Mine.hd.heap_1 = Mine.hd.heap_1) → True := by
    k_fill
    intro _; trivial
  clear kk
  unfold Says
  intro w mean mg mb dp un gd cn cs a ccd cl outer A₀ base h₀ L m news s Q E B F X N T hk hpre hdp hun hret hbad
  obtain ⟨h0, h1, h2, h3, h4, h5⟩ := hp
  refine wpAny_call ?_
  k_dflt (refine' code_defC ?k1 ?k2 ?k3 ?k4 ?k5 ?kA ?kF ?kK ?k6 ?k7 ?k8 ?k9 ?kB ?kD ?_ ?c2 ?c3 ?c4; (case kA => exact rfl); (case kF => exact rfl); (case kK => first | exact rfl | assumption); (case k1 => k_asm); (case k2 => k_asm); (case k3 => k_asm); (case k4 => k_asm); (case k5 => k_asm); (case k6 => k_is); (case k7 => k_is); (case k8 => ktr_room); (case k9 => exact BindsTo.of_eq rfl); (case kB => exact rfl); (case kD => decide +kernel); (case c2 => exact rfl); (case c3 => exact rfl); (case c4 => exact rfl); k_whole; intro g' L' h' tk' cells' FG' F' N' Y' B' X' T' l1; (try k_lt l1); k_cells Y'; (try simp only [List.cons_append, List.nil_append] at N'); (try dsimp only); (try k_lift B'); (try k_fold))
  k_with_none
  k_with "call builtin:str.lstrip" => ((with_reducible show wpAny _ _ (call (Value.builtin "str.lstrip") [Value.str x _, Value.str _ _]) _ _ _); k_dflt (refine KXw.lstripChars h0 (by rw [sizeLine_eq]; omega) ?_); intro _ _)
  k_with "call builtin:str.rstrip" => ((with_reducible show wpAny _ _ (call (Value.builtin "str.rstrip") [Value.str b _, Value.str _ _]) _ _ _); k_dflt (refine KXw.rstripChars h1 (by rw [sizeLine_eq]; omega) ?_); intro _ _)
  k_with "storeName" => (k_dflt (refine' storeX_C ?F ?N ?c ?U ?d ?_ ?a ?b; (case a => rfl); (case b => rfl); (case F => k_asm); (case N => k_asm); (case c => rfl); (case U => exact UpdF.head (fun p hp => Nat.ne_of_lt (Nat.lt_succ_of_lt (l1 p hp)))); (case d => k_asm); k_whole; intro h' o' F' N' d'; (try dsimp only at N'); (try k_sweep)))
  k_with "SrcStep" => ((with_reducible rename IsRange _ _ _ _ _ _ _ _ => kR); refine ⟨_, _, _, _, _, _, _, chunks b, _, rfl, rfl, by assumption, by assumption, kR, ?ka, rangeSize_toNat _ _ _, ?kb, ?_⟩; (case ka => exact small_nine h3); (case kb => exact chunks_size h3); clear kR; (intro s₂ hs₂; obtain ⟨g₂, rfl⟩ := hs₂); (refine' kct_rest (chunk b) (cuts_len b) (cuts_at b) (fun k' t' I' oI' C' oC' D' m' ys' h' tk' E' hk' hC' hx' F' N' off' ne' => ?_) ?_); (all_goals (try (simp only [LCg.Off3, and_true] at off'))); (all_goals (try ((show KPfMark → _); intro hMark'))))
  k_with "CompEnd" => (k_dflt (refine' LCg.CompEnd.intro (by assumption) (by assumption) ?kn ?ks ?ko ?kS (kct_el ?ke ?kr rfl); (case ke => exact rfl); (case kr => exact rfl); (case ks => kcf_all); (case ko => first | assumption | (simp only [LCg.Off3, and_true]; assumption)); (case kS => first | lcg_src | assumption)))
  k_with "pyIter ref" => ((rename Fr _ _ _ _ => lF'); (rename News _ _ _ _ => lN'); (with_reducible rename CarriedAll _ (List.map _ _) => ktC); (with_unfolding_all refine' kdl_iter (PairJ b p u (ledgerOf lN')) rfl ?kl lF' lN' ?kJ ?kT ?kD); (case kJ => exact ⟨rfl, _, _, _, _, map3' (by with_unfolding_all rfl) (by with_unfolding_all rfl) (by with_unfolding_all rfl), rfl⟩); (case kl => exact List.Mem.head _); (case' kT => (intro i v m₁ nx h tk own hv hoff hl hJ F₁ N₁; (obtain ⟨rfl, mv, tm, tb, u2, rfl, rfl⟩ := hJ); (obtain ⟨k9, t9, hk9, rfl⟩ := carried_at _ ktC hv); (obtain ⟨rfl, hi9⟩ := cut_is hk9); have kcl := chunk_len b i; have kcs : (chunk b (9 * (i : Int))).length ≤ sizeLine := Nat.le_trans kcl (by decide); have kpw := pow_bits _ kcl; (try k_fold))); (case' kD => (intro m₁ nx h tk hJ F₁ N₁; (obtain ⟨rfl, mv, tm, tb, u2, rfl, hmv⟩ := hJ); rw [(carried_len ktC).trans (cuts_len b), pv_end] at hmv; subst hmv; (try k_fold))))
  k_with "call type:int" => (refine call_figures ?kN (chunk_figs h2 hi9).all (chunk_figs h2 hi9).ne (Nat.le_trans kcl (by decide)) ?_; (case kN => exact (Heap.NoDigits.keeps (Top.nodigits (by assumption)) (Fr.keep (by assumption)))); change wpAny _ _ _ _ _ _)
  k_steps
  · (with_reducible rename News _ L _ _ => kN9)
    refine hret _ [_] _ _ (by assumption) (fun p hp => kN9 p ((List.mem_cons.mp hp).elim (fun e => List.mem_cons.mpr (.inl e)) (fun e => List.mem_cons_of_mem _ (List.mem_cons_of_mem _ (List.mem_cons_of_mem _ e))))) (out_q ?_ ?_)
    · rfl
    · omega
  · (with_reducible rename Fr _ _ _ _ => kF9)
    (with_reducible rename News _ _ _ _ => kN9)
    refine' InvEndG.intro kF9 kN9 ⟨hl, rfl, _, _, _, _, map3' ?ka ?kb ?kc, ?kd⟩ hoff (fun p hp => List.mem_append_left _ hp) (fun p hp => List.mem_append_right _ hp)
    (case ka => with_unfolding_all rfl)
    (case kb => with_unfolding_all rfl)
    (case kc => with_unfolding_all rfl)
    (case kd => exact pv_step b i)
end Mine

end

theorem Mine.top_off_U5 : True := by
  w_top off
  trivial

section
open PySem PySem.W PyProof.Rows Builtin.Str
namespace Mine
/-- n figures, neither end a nought -/
structure Run (x : Str) (n : Int) : Prop where
  len : (x.length : Int) = n
  all : NumText.AllDigits (li x)
  head : ∃ c r, li x = c :: r ∧ c ≠ 48
  last : ∃ r c, li x = r ++ [c] ∧ c ≠ 48
theorem slice_zero (x : Str) (j : Int) : Txt.slice x none (some j) = Txt.slice x (some 0) (some j) := by
  show StrLaws.sliceText x none (some j) = StrLaws.sliceText x (some 0) (some j)
  unfold StrLaws.sliceText
  rw [StrLaws.sliceIdx_none_lo]
theorem mem_mul {x : Str} {n : Int} {c : Nat} (h : c ∈ li (Txt.mul x n)) : c ∈ li x := by
  unfold Txt.mul at h
  split at h
  · exact absurd h (by show c ∉ ([] : List Nat); simp)
  · split at h
    · exact h
    · have key : ∀ (k : Nat) (acc : Array Nat), c ∈ ((List.replicate k x.cps).foldl (· ++ ·) acc).toList → c ∈ acc.toList ∨ c ∈ x.cps.toList := by
        intro k
        induction k with
        | zero => intro acc h; exact .inl h
        | succ k ih =>
          intro acc h
          rw [List.replicate_succ, List.foldl_cons] at h
          rcases ih _ h with h | h
          · rw [Array.toList_append, List.mem_append] at h
            exact h
          · exact .inr h
      rcases key _ _ h with h | h
      · simp at h
      · exact h
theorem mem_joined {l : List Str} {c : Nat} (h : c ∈ li (Str.join (Str.ofString "") l)) : ∃ a ∈ l, c ∈ li a := by
  have e0 : li (Str.ofString "") = [] := by decide +kernel
  induction l with
  | nil => exact absurd h (by show c ∉ ([] : List Nat); simp)
  | cons a r ih =>
    cases r with
    | nil => exact ⟨a, .head _, h⟩
    | cons b r =>
      have h' : c ∈ li (a ++ Str.ofString "" ++ Str.join (Str.ofString "") (b :: r)) := h
      rw [li_app, li_app, e0, List.append_nil] at h'
      rcases List.mem_append.mp h' with h | h
      · exact ⟨a, .head _, h⟩
      · obtain ⟨z, hz, hc⟩ := ih h
        exact ⟨z, .tail _ hz, hc⟩
theorem body_all (sd : Int) : ∀ c ∈ li (body12 sd), 48 ≤ c ∧ c ≤ 57 := by
  intro c hc
  have e : body12 sd = Str.join (Str.ofString "") (List.map (digitS sd) (rangeKs 0 (12 - 0 : Int).toNat)) := StrLaws.glued_eq_join _ _
  rw [e] at hc
  obtain ⟨a, ha, hc⟩ := mem_joined hc
  obtain ⟨k, _, rfl⟩ := List.mem_map.mp ha
  exact digitS_all sd k c hc
theorem li7 : li (Str.ofString "7") = [55] := by decide +kernel
theorem li3 : li (Str.ofString "3") = [51] := by decide +kernel
theorem li4 : li (Str.ofString "4") = [52] := by decide +kernel
theorem mul_size {sd mn : Int} (h : mn > 1) : mn ≤ ((Txt.mul (body12 sd) (mn.fdiv 12 + 1)).length : Int) := by
  rw [len_mul, body12_len, Int.fdiv_eq_ediv_of_nonneg _ (by decide)]
  have : ¬ (mn / 12 + 1 < 0) := by omega
  rw [if_neg (by simpa using this)]
  omega
theorem runText_run (sd : Int) {n : Int} (h0 : 1 ≤ n) : Run (runText sd n) n := by
  unfold runText
  by_cases h : n > 1
  · rw [if_pos h]
    have hM := mul_size (sd := sd) h
    obtain ⟨M, hMd⟩ : ∃ M, M = li (Txt.mul (body12 sd) (n.fdiv 12 + 1)) := ⟨_, rfl⟩
    have hMl : n ≤ (M.length : Int) := by rw [hMd, li_len]; exact hM
    have hMa : ∀ c ∈ M, 48 ≤ c ∧ c ≤ 57 := fun c hc => body_all sd c (mem_mul (hMd ▸ hc))
    have e : li (Txt.slice (Str.ofString "7" ++ Txt.mul (body12 sd) (n.fdiv 12 + 1)) none (some (n - 1)) ++ Str.ofString "3") = (55 :: M.take (n - 2).toNat) ++ [51] := by
      rw [li_app, li3, slice_zero, slice_li (by omega) (by omega), li_app, li7, ← hMd]
      have a : (0 : Int).toNat = 0 := rfl
      have b : (n - 1 - 0).toNat = (n - 2).toNat + 1 := by omega
      rw [a, b, List.drop_zero]
      rfl
    refine ⟨?_, ?_, ⟨55, M.take (n - 2).toNat ++ [51], by rw [e]; rfl, by decide⟩, ⟨_, 51, e, by decide⟩⟩
    · rw [← li_len, e, List.length_append, List.length_cons, List.length_take]
      show ((min _ _ + 1 + 1 : Nat) : Int) = n
      omega
    · rw [e]
      intro c hc
      rcases List.mem_append.mp hc with hc | hc
      · rcases List.mem_cons.mp hc with rfl | hc
        · decide
        · exact hMa c (List.mem_of_mem_take hc)
      · rw [List.mem_singleton.mp hc]; decide
  · rw [if_neg h]
    have : n = 1 := by omega
    subst this
    refine ⟨by rw [← li_len, li4]; rfl, by rw [li4]; intro c hc; rw [List.mem_singleton.mp hc]; decide, ⟨52, [], li4, by decide⟩, ⟨[], 52, li4, by decide⟩⟩
theorem Run.figs {x : Str} {n : Int} (r : Run x n) (h : n ≤ 4000) : Figs x where
  all := r.all
  ne := by obtain ⟨c, q, e, _⟩ := r.head; rw [e]; exact List.cons_ne_nil _ _
  len := by have := r.len; omega
theorem Run.lstrip {x : Str} {n : Int} (r : Run x n) : Txt.lstripChars x NOUGHT = x := by
  obtain ⟨c, q, e, h⟩ := r.head
  exact lstrip_id e h
theorem Run.rstrip {x : Str} {n : Int} (r : Run x n) : Txt.rstripChars x NOUGHT = x := by
  obtain ⟨q, c, e, h⟩ := r.last
  exact rstrip_id e h
theorem Run.ne {x : Str} {n : Int} (r : Run x n) : (x == Str.ofString "") = false := by
  obtain ⟨c, q, e, _⟩ := r.head
  cases h : (x == Str.ofString "") with
  | false => rfl
  | true =>
    exfalso
    have e0 : li (Str.ofString "") = [] := by decide +kernel
    rw [eq_of_beq h, e0] at e
    cases e
theorem Run.app {x y : Str} {n k : Int} (r : Run x n) (q : Run y k) : Run (x ++ y) (n + k) where
  len := by rw [Str.length_append]; have := r.len; have := q.len; omega
  all := by
    rw [li_app]
    intro c hc
    rcases List.mem_append.mp hc with hc | hc
    · exact r.all c hc
    · exact q.all c hc
  head := by
    obtain ⟨c, l, e, h⟩ := r.head
    exact ⟨c, l ++ li y, by rw [li_app, e]; rfl, h⟩
  last := by
    obtain ⟨l, c, e, h⟩ := q.last
    exact ⟨li x ++ l, c, by rw [li_app, e, List.append_assoc], h⟩
theorem dv_last (l : List Nat) (c : Nat) : NumText.digitsVal (l ++ [c]) = NumText.digitsVal l * 10 + (c - 48) := by
  rw [dv_app]; simp [NumText.digitsVal]
theorem Run.mod {x : Str} {n : Int} (r : Run x n) : val x % 10 ≠ 0 := by
  obtain ⟨l, c, e, h⟩ := r.last
  have hc := r.all c (by rw [e]; simp)
  unfold val
  rw [e, dv_last]
  have h1 : 48 ≤ c ∧ c ≤ 57 := hc
  push_cast
  omega
end Mine

end

theorem Mine.top_off_P4 : True := by
  w_top off
  trivial

section
open PySem PySem.W PyProof.Rows Builtin.Str
namespace Mine
theorem li_dot : li (Str.ofString ".") = [46] := by decide +kernel
theorem li_zero : li (Str.ofString "0") = [48] := by decide +kernel
theorem strike_li (x : Str) : li (Txt.replace x (Str.ofString ".") (Str.ofString "")) = (li x).filter (· != 46) := by
  have e1 : Str.ofString "." = ⟨#[46]⟩ := by decide +kernel
  have e2 : Str.ofString "" = ⟨#[]⟩ := by decide +kernel
  rw [e1, e2]
  exact replace_strikes x 46
theorem keep_figs {l : List Nat} (h : NumText.AllDigits l) : l.filter (· != 46) = l := by
  rw [List.filter_eq_self]
  intro c hc
  have := h c hc
  have h1 : 48 ≤ c ∧ c ≤ 57 := this
  simp
  omega
theorem strike_zero {x : Str} {n : Int} (r : Run x n) : Txt.replace (Str.ofString "0" ++ x) (Str.ofString ".") (Str.ofString "") = Str.ofString "0" ++ x := str_eq (by
  rw [strike_li, li_app, li_zero, List.filter_append, keep_figs r.all]; rfl)
theorem strike_dot {x : Str} {n : Int} (r : Run x n) : Txt.replace (x ++ Str.ofString ".") (Str.ofString ".") (Str.ofString "") = x := str_eq (by
  rw [strike_li, li_app, li_dot, List.filter_append, keep_figs r.all]
  show li x ++ [] = _
  rw [List.append_nil])
theorem Run.lstrip_zero {x : Str} {n : Int} (r : Run x n) : Txt.lstripChars (Str.ofString "0" ++ x) NOUGHT = x := str_eq (by
  obtain ⟨c, q, e, h⟩ := r.head
  rw [e]
  refine lstrip_one (c := c) (r := q) ?_ h
  rw [li_app, li_zero, e]; rfl)
theorem pair_zero (sd n p : Int) (t u : Tok) (hp : 1 ≤ n ∧ n ≤ 1001) : Says 1 156 [.str (Str.ofString "0" ++ runText sd n) t, .int p u] (fun _ _ => True) (OutQ (val (runText sd n)) p) Never :=
  have r := runText_run sd hp.1
  law_pair_says _ _ _ _ _ ⟨r.lstrip_zero, r.rstrip, r.figs (by omega), by have := r.len; omega, by
    have := r.len
    have e : (Str.ofString "0").length = 1 := by rw [← li_len, li_zero]; rfl
    rw [Str.length_append, e]; omega, r.ne⟩
end Mine

end

theorem Mine.top_off_P5 : True := by
  w_top off
  trivial

section
open PySem PySem.W PyProof.Rows
namespace Mine

def zerosOf (i : Int) : Str := Txt.mul (Str.ofString "0") (if 0 > i then 0 else i)
theorem zeros_len {i : Int} (h : i ≤ 100) : (zerosOf i).length ≤ 100 := by
  have e : Str.ofString "0" = ⟨#[48]⟩ := by decide +kernel
  unfold zerosOf
  rw [e, ← li_len]
  rw [show li (Txt.mul ⟨#[48]⟩ (if 0 > i then 0 else i)) = _ from mul_one_list 48 _, List.length_replicate]
  split <;> omega
set_option maxRecDepth 100000 in
set_option maxHeartbeats 8000000 in
theorem zeros_says (i : Int) (t : Tok) (hp : i ≤ 100) : Says 1 132 [.int i t] (fun _ _ => True) (OutS (zerosOf i) ((zerosOf i).length ≤ 100)) Never := by
  have kk : (PySem.Challenge.rw_pf0117_01 = PySem.Challenge.rw_pf0117_01 ∧ Mine.hd.heap_1 = Mine.hd.heap_1) → True := by
    k_fill
    intro _; trivial
  clear kk
  unfold Says
  intro w mean mg mb dp un gd cn cs a ccd cl outer A₀ base h₀ L m news s Q E B F X N T hk hpre hdp hun hret hbad
  refine wpAny_call ?_
  k_dflt cell_enter
  k_with_none
  k_steps
  all_goals exact hret _ [] _ _ (by assumption) (news_nil (by assumption)) (out_str rfl (zeros_len hp))
def lawAt (ns : List Int) (i : Int) : Int := if i < (ns.length : Int) then (if ns.getD i.toNat 0 < 0 then -ns.getD i.toNat 0 else ns.getD i.toNat 0).fmod (10 ^ Int.toNat 9) else 4 * i * i + 9 * i + 2
theorem lawAt_bnd (ns : List Int) {i : Int} (h0 : 0 ≤ i) (h1 : i ≤ 10) : 0 ≤ lawAt ns i ∧ lawAt ns i < 1000000000 := by
  unfold lawAt
  split
  · constructor
    · exact Int.fmod_nonneg_of_pos _ (by decide)
    · exact Int.fmod_lt_of_pos _ (by decide)
  · have h2 : i * i ≤ 100 := by
      have : i * i ≤ 10 * 10 := Int.mul_le_mul h1 h1 h0 (by decide)
      omega
    have h3 : 0 ≤ i * i := Int.mul_nonneg h0 h0
    rw [Int.mul_assoc]
    omega
set_option maxRecDepth 100000 in
set_option maxHeartbeats 8000000 in
theorem law_at_says (sl : Addr) (vs : List Value) (ns : List Int) (i : Int) (t : Tok) (hi : IntsAre vs ns) (hp : 0 ≤ i ∧ i ≤ 10 ∧ ns.length ≤ 63) : Says 1 146 [.ref sl, .int i t] (fun h _ => h.IsList sl vs.toArray) (OutI (lawAt ns i) (0 ≤ lawAt ns i ∧ lawAt ns i < 1000000000)) Never := by
  have kk : (PySem.Challenge.rw_pf0117_01 = PySem.Challenge.rw_pf0117_01 ∧ Mine.hd.heap_1 = Mine.hd.heap_1) → True := by
    k_fill
    intro _; trivial
  clear kk
  unfold Says
  intro w mean mg mb dp un gd cn cs a ccd cl outer A₀ base h₀ L m news s Q E B F X N T hk hpre hdp hun hret hbad
  obtain ⟨h0, h1, h2⟩ := hp
  refine wpAny_call ?_
  k_dflt cell_enter
  k_with_none
  (with_reducible rename Fr h₀ L _ m => FG9)
  have hl9 := Fr.lst FG9 hpre
  clear FG9
  k_steps
  · exact hret _ [] _ _ (by assumption) (news_nil (by assumption)) (out_int (if_pos (by assumption)).symm (lawAt_bnd ns h0 h1))
  · exact hret _ [] _ _ (by assumption) (news_nil (by assumption)) (out_int (if_neg (by assumption)).symm (lawAt_bnd ns h0 h1))
end Mine

end

theorem Mine.top_off_U1 : True := by
  w_top off
  trivial

section
open PySem PySem.W PyProof.Rows
namespace Mine
abbrev num (n : Int) : Str := Str.ofString (toString n)
/-- the text of a pair -/
def showP (pm pe : Int) (l : Str) : Str :=
  if (l == Str.ofString "D") = true then num pm ++ Str.ofString "." ++ l ++ num pe else
  if 0 < pe then num pm ++ Str.ofString "." ++ l ++ num pe else
  if pe < -12 then num pm ++ Str.ofString "." ++ l ++ num pe else
  if pe = 0 then num pm ++ Str.ofString "." else
  if ((num pm).length : Int) ≤ -pe then Str.ofString "." ++ zerosOf (-pe - (num pm).length) ++ num pm else
  Txt.slice (num pm) none (some pe) ++ Str.ofString "." ++ Txt.slice (num pm) (some pe) none
set_option maxRecDepth 100000 in
set_option maxHeartbeats 8000000 in
theorem show_pair_says (D : Addr) (n : Nat) (pm pe : Int) (t1 t2 : Tok) (l : Str) (u : Tok) (hp : 0 ≤ pm ∧ pm < 10000000 ∧ -20 ≤ pe ∧ pe ≤ 20 ∧ l.length ≤ 1) : Says 2 139 [.ref D, .str l u] (fun _ news => (D, ({ cls := .type "tuple", data := .seq #[.int pm t1, .int pe t2] n } : Obj)) ∈ news) (OutS (showP pm pe l)) Never := by
  have kk : (PySem.Challenge.rw_pf0117_01 = PySem.Challenge.rw_pf0117_01 ∧ Mine.hd.heap_1 = Mine.hd.heap_1) → True := by
    k_fill
    intro _; trivial
  clear kk
  unfold Says
  intro w mean mg mb dp un gd cn cs a ccd cl outer A₀ base h₀ L m news s Q E B F X N T hk hpre hdp hun hret hbad
  obtain ⟨h0, h1, h2, h3, h4⟩ := hp
  refine wpAny_call ?_
  k_dflt cell_enter
  k_with_none
  k_with "call ref cons nil" => first
    | ((with_reducible show wpAny _ _ (call (Value.ref 132) _) _ _ _); ktr_call (zeros_says _ _ ?kp) 0)
  k_steps
  all_goals (with_reducible rename News _ L _ _ => kN9)
  all_goals (refine hret _ [] _ _ (by assumption) (fun p hp => kN9 p (by repeat (first | exact hp | apply List.Mem.tail))) (out_str ?_ trivial); clear kN9; symm; show showP _ _ _ = _; unfold showP; ktr_unf; rfl)
end Mine

end

theorem Mine.top_off_U3 : True := by
  w_top off
  trivial

section
open PySem PySem.W PyProof.Rows
namespace Mine
theorem app_empty (x : Str) : x ++ Str.ofString "" = x := str_eq (by
  rw [li_app]
  have h0 : li (Str.ofString "") = [] := by decide +kernel
  rw [h0, List.append_nil])
theorem empty_app' (x : Str) : Str.ofString "" ++ x = x := str_eq (by
  rw [li_app]
  have h0 : li (Str.ofString "") = [] := by decide +kernel
  rw [h0, List.nil_append])
theorem zeros_li (i : Int) : li (zerosOf i) = List.replicate i.toNat 48 := by
  have e : Str.ofString "0" = ⟨#[48]⟩ := by decide +kernel
  unfold zerosOf
  rw [e]
  refine (mul_one_list 48 _).trans ?_
  congr 1
  split <;> omega
section
variable {pm pe : Int} {l : Str} (hl : (l == Str.ofString "D") = false) (h1 : ¬ 0 < pe) (h2 : ¬ pe < -12) (hm : 0 < pm)
include hl h1 h2 hm
theorem shown_a (h3 : pe < 0) (hs : (Txt.stripChars (Txt.slice (rj (num pm) (1 - pe)) none (some pe)) NOUGHT == Str.ofString "") = true) :
    Str.ofString "" ++ Str.ofString "." ++ Txt.slice (rj (num pm) (1 - pe)) (some pe) none = showP pm pe l := by
  obtain ⟨c, r, hc, hc'⟩ := num_head hm
  by_cases hn : ((num pm).length : Int) ≤ -pe
  · unfold showP
    rw [if_neg (ne_of_false hl), if_neg h1, if_neg h2, if_neg (by omega), if_pos hn]
    rw [empty_app']
    apply str_eq
    have e := rj_len (x := num pm) (k := 1 - pe) (by omega)
    rw [li_app, li_app, li_app, slice_from h3 (by omega), e, rj_li, zeros_li, List.drop_append, List.drop_replicate, List.length_replicate, List.append_assoc]
    have a : (pe + (1 - pe)).toNat = 1 := by omega
    rw [a]
    have b : 1 - ((1 - pe).toNat - (num pm).length) = 0 := by omega
    rw [b, List.drop_zero]
    have d : (1 - pe).toNat - (num pm).length - 1 = (-pe - ((num pm).length : Int)).toNat := by omega
    rw [d]
  · exfalso
    rw [rj_big (by omega)] at hs
    have hL : (num pm).length = r.length + 1 := by rw [← li_len, hc]; rfl
    have e : li (Txt.slice (num pm) none (some pe)) = c :: (r.take (pe + (num pm).length - 1).toNat) := by
      rw [slice_to h3 (by omega), hc]
      have : (pe + (num pm).length).toNat = (pe + (num pm).length - 1).toNat + 1 := by omega
      rw [this, List.take_succ_cons]
    rw [strip_head e hc'] at hs
    exact absurd hs (by decide)
theorem shown_b (h3 : pe < 0) (hs : (Txt.stripChars (Txt.slice (rj (num pm) (1 - pe)) none (some pe)) NOUGHT == Str.ofString "") = false) :
    Txt.slice (rj (num pm) (1 - pe)) none (some pe) ++ Str.ofString "." ++ Txt.slice (rj (num pm) (1 - pe)) (some pe) none = showP pm pe l := by
  by_cases hn : ((num pm).length : Int) ≤ -pe
  · exfalso
    have e := rj_len (x := num pm) (k := 1 - pe) (by omega)
    have e' : li (Txt.slice (rj (num pm) (1 - pe)) none (some pe)) = [48] := by
      rw [slice_to h3 (by omega), e, rj_li]
      have a : (pe + (1 - pe)).toNat = 1 := by omega
      rw [a]
      have b : (1 - pe).toNat - (num pm).length = ((1 - pe).toNat - (num pm).length - 1) + 1 := by omega
      rw [b, List.replicate_succ]; rfl
    rw [strip_zero e'] at hs
    exact absurd hs (by decide)
  · unfold showP
    rw [if_neg (ne_of_false hl), if_neg h1, if_neg h2, if_neg (by omega), if_neg hn, rj_big (by omega)]
theorem shown_c (h3 : ¬ pe < 0) : num pm ++ Str.ofString "." ++ Str.ofString "" = showP pm pe l := by
  unfold showP
  rw [if_neg (ne_of_false hl), if_neg h1, if_neg h2, if_pos (by omega), app_empty]
end
set_option maxRecDepth 100000 in
set_option maxHeartbeats 8000000 in
theorem law_shown_says (pm pe : Int) (t1 t2 : Tok) (l : Str) (u : Tok) (hp : 0 < pm ∧ pm < 10000000 ∧ -20 ≤ pe ∧ pe ≤ 20 ∧ l.length ≤ 1) : Says 1 177 [.int pm t1, .int pe t2, .str l u] (fun _ _ => True) (OutS (showP pm pe l)) Never := by
  have kk : (PySem.Challenge.rw_pf0117_01 = PySem.Challenge.rw_pf0117_01 ∧ Mine.hd.heap_1 = Mine.hd.heap_1) → True := by
    k_fill
    intro _; trivial
  clear kk
  unfold Says
  intro w mean mg mb dp un gd cn cs a ccd cl outer A₀ base h₀ L m news s Q E B F X N T hk hpre hdp hun hret hbad
  obtain ⟨h0, h1, h2, h3, h4⟩ := hp
  refine wpAny_call ?_
  k_dflt cell_enter
  k_with_none
  have hrj : (Txt.rjustF (Str.ofString (toString pm)) (1 - pe) ((Str.ofString "0").cps.getD 0 0)).length ≤ 100 := by
    rw [← li_len]; unfold li; rw [rjustF_list, List.length_append, List.length_replicate, Array.length_toList]
    have := KT.len_num (Int.le_of_lt h0) (by omega)
    have h' : (Str.ofString (toString pm)).cps.size ≤ 10 := this
    omega
  have hrk := Nat.le_trans hrj (by decide : 100 ≤ sizeLine)
  k_steps
  all_goals (with_reducible rename News _ L _ _ => kN9)
  all_goals (refine hret _ [] _ _ (by assumption) (fun p hp => kN9 p (by repeat (first | exact hp | apply List.Mem.tail))) (out_str ?_ trivial); clear kN9)
  all_goals first
    | (with_reducible refine shown_a ?_ ?_ ?_ h0 ?_ ?_ <;> assumption)
    | (with_reducible refine shown_b ?_ ?_ ?_ h0 ?_ ?_ <;> assumption)
    | (with_reducible refine shown_c ?_ ?_ ?_ h0 ?_ <;> assumption)
    | (symm; show showP _ _ _ = _; unfold showP; ktr_unf; rfl)
end Mine

end

theorem Mine.top_off_U4 : True := by
  w_top off
  trivial

local macro_rules | `(tactic| ktr_call $x:term 2) => `(tactic| (k_dflt ((refine' Mine.says_useQ $x ?k1 ?k2 ?k3 ?k4 ?k5 ?kK ?kq ?kd ?ku ?_); (case k1 => k_asm); (case k2 => k_asm); (case k3 => k_asm); (case k4 => k_asm); (case k5 => k_asm); (case kK => first | exact rfl | assumption); (try (case kp => ((repeat' (refine And.intro ?_ ?_)) <;> first | assumption | omega | k_extra "size"))); (case kq => first | trivial | assumption); (case kd => ktr_room); (case ku => ktr_units); intro D9 n9 u1 u2 h9 tk9 F9 N9; (try k_sweep); (try dsimp only); (try k_fold))))

section
open PySem PySem.W PyProof.Rows
namespace Mine
theorem pair_run (sd n p : Int) (t u : Tok) (hp : 1 ≤ n ∧ n ≤ 1001) : Says 1 156 [.str (runText sd n) t, .int p u] (fun _ _ => True) (OutQ (val (runText sd n)) p) Never :=
  have r := runText_run sd hp.1
  law_pair_says _ _ _ _ _ ⟨r.lstrip, r.rstrip, r.figs (by omega), by have := r.len; omega, by have := r.len; omega, r.ne⟩
theorem pair_runs (sd n sd' n' p : Int) (t u : Tok) (hp : 1 ≤ n ∧ 1 ≤ n' ∧ n + n' ≤ 1001) : Says 1 156 [.str (runText sd n ++ runText sd' n') t, .int p u] (fun _ _ => True) (OutQ (val (runText sd n ++ runText sd' n')) p) Never :=
  have r := (runText_run sd hp.1).app (runText_run sd' hp.2.1)
  law_pair_says _ _ _ _ _ ⟨r.lstrip, r.rstrip, r.figs (by omega), by have := r.len; omega, by have := r.len; omega, r.ne⟩
/-- all that was made are sequences -/
def Seqs (l : Led) : Prop := ∀ p ∈ l, ∃ a n, p.2.data = .seq a n
theorem seqs_nil : Seqs [] := fun _ h => nomatch h
theorem seqs_cons {a : Addr} {o : Obj} {l : Led} (h : ∃ a n, o.data = .seq a n) (t : Seqs l) : Seqs ((a, o) :: l) := fun p hp => by
  rcases List.mem_cons.mp hp with rfl | hp
  · exact h
  · exact t p hp
/-- a text, its kind and its value come back -/
abbrev OutL (x k : Str) (d : Dat) : Led → Led → Value → Prop := fun tl _ r => ∃ D n t1 t2 V, (D, ({ cls := .type "tuple", data := .seq #[.str x t1, .str k t2, V] n } : Obj)) ∈ tl ∧ r = .ref D ∧ DatIn tl V d ∧ Seqs tl
abbrev longOf (ns : List Int) : Int := [999, 1000, 1, 4].getD ((lawAt ns 1).fmod 4).toNat 0
theorem four_cases {P : Int → Prop} (h : P 0 ∧ P 1 ∧ P 2 ∧ P 3) (x : Int) : P (x.fmod 4) := by
  have h0 := Int.fmod_nonneg_of_pos x (b := 4) (by decide)
  have h1 := Int.fmod_lt_of_pos x (b := 4) (by decide)
  obtain ⟨a0, a1, a2, a3⟩ := h
  have : x.fmod 4 = 0 ∨ x.fmod 4 = 1 ∨ x.fmod 4 = 2 ∨ x.fmod 4 = 3 := by omega
  rcases this with h | h | h | h <;> rw [h] <;> assumption
theorem long_bnd (ns : List Int) : 1 ≤ longOf ns ∧ longOf ns ≤ 1000 := four_cases (P := fun r => 1 ≤ ([999, 1000, 1, 4] : List Int).getD r.toNat 0 ∧ ([999, 1000, 1, 4] : List Int).getD r.toNat 0 ≤ 1000) (by decide) _
theorem long_is (ns : List Int) : longOf ns = 999 ∨ longOf ns = 1000 ∨ longOf ns = 1 ∨ longOf ns = 4 := four_cases (P := fun r => ([999, 1000, 1, 4] : List Int).getD r.toNat 0 = 999 ∨ ([999, 1000, 1, 4] : List Int).getD r.toNat 0 = 1000 ∨ ([999, 1000, 1, 4] : List Int).getD r.toNat 0 = 1 ∨ ([999, 1000, 1, 4] : List Int).getD r.toNat 0 = 4) (by decide) _
theorem pow_none (v : Int) : v * 10 ^ Int.toNat 0 = v := by simp
abbrev text0 (ns : List Int) : Str := runText (lawAt ns 2) (longOf ns)
local macro_rules | `(tactic| walk_at "eval Call") => `(tactic| (k_here; k_dflt (refine Call_ ?_)))
set_option maxRecDepth 100000 in
set_option maxHeartbeats 8000000 in
theorem law_number_says0 (sl : Addr) (vs : List Value) (ns : List Int) (u : Tok) (hi : IntsAre vs ns) (hp : ns.length ≤ 63) : Says 2 163 [.ref sl, .int 0 u] (fun h _ => h.IsList sl vs.toArray) (OutL (text0 ns) (Str.ofString "INT") (.int (val (text0 ns)))) Never := by
  have kk : (PySem.Challenge.rw_pf0117_01 = PySem.Challenge.rw_pf0117_01 ∧ Mine.hd.heap_1 = Mine.hd.heap_1) → True := by
    k_fill
    intro _; trivial
  clear kk
  unfold Says
  intro w mean mg mb dp un gd cn cs a ccd cl outer A₀ base h₀ L m news s Q E B F X N T hk hpre hdp hun hret hbad
  refine wpAny_call ?_
  k_dflt cell_enter
  k_with_none
  (with_reducible rename Fr h₀ L _ m => FG9)
  have hl9 := Fr.lst FG9 hpre
  clear FG9
  k_with "call ref cons nil" => first
    | ((with_reducible show wpAny _ _ (call (Value.ref 146) _) _ _ _); ktr_call (law_at_says _ _ _ _ _ hi ?kp) 0)
    | ((with_reducible show wpAny _ _ (call (Value.ref 151) _) _ _ _); ktr_call (law_run_says _ _ _ _ ?kp) 0)
    | ((with_reducible show wpAny _ _ (call (Value.ref 156) _) _ _ _); ktr_call (pair_run _ _ _ _ _ ?kp) 2)
  k_with "size" => first | exact (long_bnd ns).1 | exact Int.le_trans (long_bnd ns).2 (by decide)
  k_steps
  (with_reducible rename News _ L _ _ => kN9)
  exact hret _ [_] _ _ (by assumption) (fun p hp => kN9 p ((List.mem_cons.mp hp).elim (fun e => List.mem_cons.mpr (.inl e)) (fun e => .tail _ (.tail _ (.tail _ (.tail _ e)))))) ⟨_, _, _, _, _, .head _, rfl, dat_int (pow_none _), seqs_cons ⟨_, _, rfl⟩ seqs_nil⟩
end Mine

end

theorem Mine.top_off_U6 : True := by
  w_top off
  trivial

section
open PySem PySem.W PyProof.Rows
namespace Mine
def dots : List Str := [Str.ofString ".EQ.", Str.ofString ".NE.", Str.ofString ".LT.", Str.ofString ".LE.", Str.ofString ".GT.", Str.ofString ".GE.", Str.ofString ".NOT.", Str.ofString ".AND.", Str.ofString ".OR.", Str.ofString ".EQV.", Str.ofString ".NEQV."]
def truths : List Str := [Str.ofString ".TRUE.", Str.ofString ".FALSE."]
def dotted (w : Str) : Str := if (dots.any fun y => y == w) = true then w else if (truths.any fun y => y == w) = true then w else Str.ofString ""
theorem dotted_1 {w : Str} (h : (dots.any fun y => y == w) = true) : w = dotted w := by unfold dotted; rw [if_pos h]
theorem dotted_2 {w : Str} (h1 : (dots.any fun y => y == w) = false) (h : (truths.any fun y => y == w) = true) : w = dotted w := by unfold dotted; rw [if_neg (by rw [h1]; decide), if_pos h]
theorem dotted_3 {w : Str} (h1 : (dots.any fun y => y == w) = false) (h : (truths.any fun y => y == w) = false) : Str.ofString "" = dotted w := by unfold dotted; rw [if_neg (by rw [h1]; decide), if_neg (by rw [h]; decide)]
def dottedAt (x : Str) (i : Int) : Str := dotted (Txt.slice x (some i) (some (runOf x (i + 1) LETTERS + 1)))
set_option maxRecDepth 100000 in
set_option maxHeartbeats 8000000 in
theorem dotted_at_says (x : Str) (i : Int) (t1 t2 : Tok) (hp : 0 ≤ i ∧ i < x.length ∧ x.length ≤ 4000) : Says 2 69 [.str x t1, .int i t2] (fun _ _ => True) (OutS (dottedAt x i)) Never := by
  have kk : (PySem.Challenge.rw_pf0117_01 = PySem.Challenge.rw_pf0117_01 ∧ Mine.hd.heap_1 = Mine.hd.heap_1) → True := by
    k_fill
    intro _; trivial
  clear kk
  unfold Says
  intro w mean mg mb dp un gd cn cs a ccd cl outer A₀ base h₀ L m news s Q E B F X N T hk hpre hdp hun hret hbad
  obtain ⟨h0, h1, hx⟩ := hp
  refine wpAny_call ?_
  k_dflt cell_enter
  k_with_none
  k_with "call ref cons nil" => ktr_call (run_of_says _ _ _ _ _ _ ?kp) 0
  k_with "compareOp In str ref" => (k_dflt (refine' in_tuple_strs (tupK (by k_in) (by k_is)) ?k2 ?_; (case k2 => kde_strs)))
  k_steps
  all_goals (try dsimp only at *)
  all_goals (refine hret _ [] _ _ (by assumption) (news_nil (by assumption)) ?_)
  · exact out_str (dotted_1 (by assumption)) trivial
  · exact out_str (dotted_2 (by assumption) (by assumption)) trivial
  · exact out_str (dotted_3 (by assumption) (by assumption)) trivial
end Mine

end

theorem Mine.top_off_T2 : True := by
  w_top off
  trivial

section
open PySem PySem.W PyProof.Rows
namespace Mine
theorem Says.mono {d : Nat} {f : Addr} {vs : List Value} {pre : Heap → Led → Prop} {out out' : Led → Led → Value → Prop} {bad : Int → Prop} (C : Says d f vs pre out bad) (h : ∀ tl news r, out tl news r → out' tl news r) : Says d f vs pre out' bad := by
  intro w mean mg mb dp un gd cn cs a ccd cl outer A₀ base h₀ L m news s Q E B F X N T hk hpre hdp hun hret hbad
  exact C w mean mg mb dp un gd cn cs a ccd cl outer A₀ base h₀ L m news s Q E B F X N T hk hpre hdp hun (fun r tl h' tk' F' N' o => hret r tl h' tk' F' N' (h _ _ _ o)) hbad
theorem fmod_bnd (x b : Int) (h : 0 < b) : 0 ≤ x.fmod b ∧ x.fmod b < b := ⟨Int.fmod_nonneg_of_pos x h, Int.fmod_lt_of_pos x h⟩
theorem run_says (sd mn : Int) (t u : Tok) (hp : 0 ≤ sd ∧ 1 ≤ mn ∧ mn ≤ 1001) : Says 1 151 [.int sd t, .int mn u] (fun _ _ => True) (OutS (runText sd mn) (Run (runText sd mn) mn ∧ ((runText sd mn).length : Int) = mn ∧ (runText sd mn).length ≤ 1001 ∧ (runText sd mn).length ≤ sizeLine)) Never :=
  (law_run_says sd mn t u ⟨hp.1, hp.2.2⟩).mono fun tl news r o => ⟨o.1, o.2.1, by
    have r := runText_run sd hp.2.1
    have l := r.len
    have z : (1001 : Nat) ≤ sizeLine := by decide
    exact ⟨r, l, by omega, by omega⟩⟩
local macro_rules | `(tactic| walk_at "eval Call") => `(tactic| (k_here; k_dflt (refine Call_ ?_)))
abbrev fracN (ns : List Int) : Int := 1 + (lawAt ns 3).fmod 5
abbrev frac (ns : List Int) : Str := runText (lawAt ns 2 + 1) (fracN ns)
abbrev wholeN (ns : List Int) : Int := if longOf ns - ((frac ns).length : Int) - 1 > 1 then longOf ns - ((frac ns).length : Int) - 1 else 1
abbrev whole1 (ns : List Int) : Str := runText (lawAt ns 2) (wholeN ns)
set_option maxRecDepth 100000 in
set_option maxHeartbeats 8000000 in
theorem law_number_says1 (sl : Addr) (vs : List Value) (ns : List Int) (u : Tok) (hi : IntsAre vs ns) (hp : ns.length ≤ 63) : Says 2 163 [.ref sl, .int 1 u] (fun h _ => h.IsList sl vs.toArray) (OutL (whole1 ns ++ Str.ofString "." ++ frac ns) (Str.ofString "REAL") (.tuple [.int (val (whole1 ns ++ frac ns)), .int (-((frac ns).length : Int))])) Never := by
  have kk : (PySem.Challenge.rw_pf0117_01 = PySem.Challenge.rw_pf0117_01 ∧ Mine.hd.heap_1 = Mine.hd.heap_1) → True := by
    k_fill
    intro _; trivial
  clear kk
  unfold Says
  intro w mean mg mb dp un gd cn cs a ccd cl outer A₀ base h₀ L m news s Q E B F X N T hk hpre hdp hun hret hbad
  refine wpAny_call ?_
  k_dflt cell_enter
  k_with_none
  (with_reducible rename Fr h₀ L _ m => FG9)
  have hl9 := Fr.lst FG9 hpre
  clear FG9
  have lb := long_bnd ns
  unfold longOf at lb
  have fb := fmod_bnd (lawAt ns 3) 5 (by decide)
  k_with "call ref cons nil" => first
    | ((with_reducible show wpAny _ _ (call (Value.ref 146) _) _ _ _); ktr_call (law_at_says _ _ _ _ _ hi ?kp) 0)
    | ((with_reducible show wpAny _ _ (call (Value.ref 151) _) _ _ _); ktr_call (run_says _ _ _ _ ?kp) 0)
    | ((with_reducible show wpAny _ _ (call (Value.ref 156) _) _ _ _); ktr_call (pair_runs _ _ _ _ _ _ _ ?kp) 2)
  k_with "size" => first | (split <;> omega) | exact (long_bnd ns).1 | exact Int.le_trans (long_bnd ns).2 (by decide)
  k_steps
  (with_reducible rename News _ L _ _ => kN9)
  exact hret _ [_, _] _ _ (by assumption) (fun p hp => kN9 p ((List.mem_cons.mp hp).elim (fun e => List.mem_cons.mpr (.inl e)) (fun e => (List.mem_cons.mp e).elim (fun e => .tail _ (List.mem_cons.mpr (.inl e))) (fun e => .tail _ (.tail _ (.tail _ e)))))) ⟨_, _, _, _, _, .head _, rfl, dat_tup2 (.tail _ (.head _)) (.int _ _) (.int _ _), seqs_cons ⟨_, _, rfl⟩ (seqs_cons ⟨_, _, rfl⟩ seqs_nil)⟩
end Mine

end

theorem Mine.top_off_U7 : True := by
  w_top off
  trivial

section
open PySem PySem.W PyProof.Rows
namespace Mine

theorem pair_no {v a : Int} (h0 : v % 10 ≠ 0) (e : a = v) (h : a = 0) : False := by subst e; subst h; exact h0 rfl
theorem pair_no2 {v a : Int} (h0 : v % 10 ≠ 0) (e : a = v) (h : a.fmod 10 = 0) : False := by
  subst e
  rw [Int.fmod_eq_emod_of_nonneg _ (by decide)] at h
  exact h0 h
set_option maxRecDepth 100000 in
set_option maxHeartbeats 8000000 in
theorem told_pair_says (x : Str) (p : Int) (t1 t2 : Tok) (hp : Figs x ∧ val x % 10 ≠ 0) : Says 1 76 [.str x t1, .int p t2] (fun _ _ => True) (OutQ (val x) p) Never := by
  have kk : (PySem.Challenge.rw_pf0117_01 = PySem.Challenge.rw_pf0117_01 ∧ Mine.hd.heap_1 = Mine.hd.heap_1) → True := by
    k_fill
    intro _; trivial
  clear kk
  unfold Says
  intro w mean mg mb dp un gd cn cs a ccd cl outer A₀ base h₀ L m news s Q E B F X N T hk hpre hdp hun hret hbad
  obtain ⟨hx, h0⟩ := hp
  have hv : 0 ≤ val x := Int.natCast_nonneg _
  refine wpAny_call ?_
  k_dflt cell_enter
  k_with_none
  k_with "call type:int" => (refine call_figures ?kN hx.all hx.ne (Nat.le_trans hx.len (by decide)) ?_; (case kN => exact (Heap.NoDigits.keeps (Top.nodigits (by assumption)) (Fr.keep (by assumption)))); change wpAny _ _ _ _ _ _)
  k_with "exec While Compare cons nil" => k_while (fun (_ : List Int) (e q : Int) => e = val x ∧ q = p) (fun (_ : List Int) (e q : Int) => 0) "m" "power"
  k_with "state" => exact ⟨rfl, rfl⟩
  k_steps
  all_goals (try dsimp only at *)
  · exact (pair_no h0 rfl (by assumption)).elim
  · exact (pair_no2 h0 (by assumption) (by assumption)).elim
  · refine hret _ [_] _ _ (by assumption) (by assumption) ?_
    exact out_q (by assumption) (by assumption)
end Mine

end

theorem Mine.top_off_T3 : True := by
  w_top off
  trivial

section
open PySem PySem.W PyProof.Rows
namespace Mine
abbrev letterOf (ns : List Int) : Str := Txt.item (Str.ofString "ED") ((lawAt ns 4).fmod 2)
abbrev signOf (ns : List Int) : Str := [Str.ofString "", Str.ofString "+", Str.ofString "-"].getD ((lawAt ns 5).fmod 3).toNat Str.empty
abbrev powS (ns : List Int) : Str := runText (lawAt ns 2 + 2) (1 + (lawAt ns 6).fmod 3)
abbrev tailS (ns : List Int) : Str := letterOf ns ++ signOf ns ++ powS ns
abbrev tailN (ns : List Int) : Int := (((letterOf ns).length + (signOf ns).length + (powS ns).length : Nat) : Int)
abbrev bigN (ns : List Int) : Int := if longOf ns - tailN ns - 1 > 1 then longOf ns - tailN ns - 1 else 1
abbrev digs2 (ns : List Int) : Str := if 20 < longOf ns then runText (lawAt ns 2) (bigN ns) else runText (lawAt ns 2) (longOf ns)
abbrev whole2 (ns : List Int) : Str := if 20 < longOf ns then Str.ofString "0" ++ runText (lawAt ns 2) (bigN ns) else runText (lawAt ns 2) (longOf ns) ++ Str.ofString "."
abbrev kind2 (ns : List Int) : Str := if (letterOf ns == Str.ofString "E") = true then Str.ofString "REAL" else Str.ofString "DBLE"
abbrev value2 (ns : List Int) : Int := if (signOf ns == Str.ofString "-") = true then -val (powS ns) else val (powS ns)
theorem dot_ne : (Str.ofString "." == Str.ofString "") = false := by decide +kernel
theorem one0 : (Str.ofString "0").length = 1 := by decide +kernel
theorem oned : (Str.ofString ".").length = 1 := by decide +kernel
section
open Builtin Builtin.Str
theorem replace_to {prog : Program} {w : World} {A : Around} {E : Value → Shared → Prop} {s : Shared} {x y z x' : Str} {t u v : Tok} {Q : Value → Shared → Prop} (e : Txt.replace x y z = x') (hu : u ≠ 0) (hv : v ≠ 0) (huv : u ≠ v) (hyz : (y == z) = false) (hx : x.length ≤ 1048576) (hz : z.length ≤ 14)
    (h : ∀ t' k, Q (.str x' t') { s with toks := k }) : wpAny (model prog w) A (call (.builtin "str.replace") [.str x t, .str y u, .str z v]) Q E s :=
  SC.replaceW hu hv huv hyz hx hz (fun t' k => by rw [e]; exact h t' k)
end
theorem out_l {D : Addr} {n : Nat} {t1 t2 : Tok} {V : Value} {x k x' k' : Str} {d : Dat} {tl news : Led} (hm : (D, ({ cls := .type "tuple", data := .seq #[.str x' t1, .str k' t2, V] n } : Obj)) ∈ tl) (hx : x' = x) (hk : k' = k) (hV : DatIn tl V d) (ht : Seqs tl) : OutL x k d tl news (.ref D) := by
  subst hx; subst hk; exact ⟨_, _, _, _, _, hm, rfl, hV, ht⟩
local macro_rules | `(tactic| walk_at "eval Call") => `(tactic| (k_here; k_dflt (refine Call_ ?_)))
local macro_rules | `(tactic| walk_at "eval IfExp") => `(tactic| (k_here; (fail_if_success (with_reducible first | show wpAny _ _ _ (Back _ _ _ _ _ _) _ _ | show wpAny _ _ _ (Back1 _ _ _ _ _ _) _ _)); k_extra "cut9"))
/-- as Back, behind a token of its own -/
def Back1 (h₀ : Heap) (L : Addr) (m : Str → Option Value) (news : Led) (P : Value → Prop) (s : Shared) (v : Value) (s' : Shared) : Prop :=
  ∃ h' tk', s' = { s with heap := h', toks := tk' + 1 } ∧ Fr h₀ L h' m ∧ News h₀ L h' news ∧ P v
theorem Back1.intro {h₀ h' : Heap} {L : Addr} {m : Str → Option Value} {news : Led} {P : Value → Prop} {s : Shared} {v : Value} {tk' : Nat} (F : Fr h₀ L h' m) (N : News h₀ L h' news) (p : P v) :
    Back1 h₀ L m news P s v { s with heap := h', toks := tk' + 1 } := ⟨h', tk', rfl, F, N, p⟩
theorem cut_to1 {prog : Program} {w : World} {A : Around} {c : Sem Value} {h₀ : Heap} {L : Addr} {m : Str → Option Value} {news : Led} {s : Shared} {Q E : Value → Shared → Prop} (P : Value → Prop) (F : Fr h₀ L s.heap m) (N : News h₀ L s.heap news)
    (a : wpAny (model prog w) A c (Back1 h₀ L m news P s) E s) (b : ∀ v h' tk', P v → Fr h₀ L h' m → News h₀ L h' news → Q v { s with heap := h', toks := tk' + 1 }) : wpAny (model prog w) A c Q E s :=
  wpAny_mono a (fun v s' ⟨h', tk', e, F', N', p⟩ => e ▸ b v h' tk' p F' N') fun _ _ e => e
def strike2 (ns : List Int) : Str := if 20 < longOf ns then Str.ofString "0" ++ runText (lawAt ns 2) (bigN ns) else runText (lawAt ns 2) (longOf ns)
theorem big_bnd (ns : List Int) : 1 ≤ bigN ns ∧ bigN ns ≤ 1001 := by
  have lb := long_bnd ns
  have tb : 0 ≤ tailN ns := Int.natCast_nonneg _
  show 1 ≤ (if longOf ns - tailN ns - 1 > 1 then longOf ns - tailN ns - 1 else 1) ∧ (if longOf ns - tailN ns - 1 > 1 then longOf ns - tailN ns - 1 else 1) ≤ 1001
  generalize longOf ns = l at *
  generalize tailN ns = k at *
  split <;> omega
theorem strike_whole {W : Str} {ns : List Int} (e : W = whole2 ns) : Txt.replace W (Str.ofString ".") (Str.ofString "") = strike2 ns := by
  rw [e]
  by_cases h : 20 < longOf ns
  · have e1 : whole2 ns = Str.ofString "0" ++ runText (lawAt ns 2) (bigN ns) := if_pos h
    have e2 : strike2 ns = Str.ofString "0" ++ runText (lawAt ns 2) (bigN ns) := if_pos h
    rw [e1, e2]
    exact strike_zero (runText_run _ (big_bnd ns).1)
  · have e1 : whole2 ns = runText (lawAt ns 2) (longOf ns) ++ Str.ofString "." := if_neg h
    have e2 : strike2 ns = runText (lawAt ns 2) (longOf ns) := if_neg h
    rw [e1, e2]
    exact strike_dot (runText_run _ (long_bnd ns).1)
theorem pair2 (ns : List Int) (p : Int) (t u : Tok) : Says 1 156 [.str (strike2 ns) t, .int p u] (fun _ _ => True) (OutQ (val (digs2 ns)) p) Never := by
  have lb := long_bnd ns
  by_cases h : 20 < longOf ns
  · have e1 : digs2 ns = runText (lawAt ns 2) (bigN ns) := if_pos h
    have e2 : strike2 ns = Str.ofString "0" ++ runText (lawAt ns 2) (bigN ns) := if_pos h
    rw [e1, e2]
    exact pair_zero _ _ _ _ _ (big_bnd ns)
  · have e1 : digs2 ns = runText (lawAt ns 2) (longOf ns) := if_neg h
    have e2 : strike2 ns = runText (lawAt ns 2) (longOf ns) := if_neg h
    rw [e1, e2]
    exact pair_run _ _ _ _ _ ⟨lb.1, Int.le_trans lb.2 (by decide)⟩
set_option maxRecDepth 100000 in
set_option maxHeartbeats 8000000 in
theorem law_number_says2 (sl : Addr) (vs : List Value) (ns : List Int) (u : Tok) (hi : IntsAre vs ns) (hp : ns.length ≤ 63) : Says 2 163 [.ref sl, .int 2 u] (fun h _ => h.IsList sl vs.toArray) (OutL (whole2 ns ++ tailS ns) (kind2 ns) (.tuple [.int (val (digs2 ns)), .int (value2 ns)])) Never := by
  have kk : (PySem.Challenge.rw_pf0117_01 = PySem.Challenge.rw_pf0117_01 ∧ Mine.hd.heap_1 = Mine.hd.heap_1) → True := by
    k_fill
    intro _; trivial
  clear kk
  unfold Says
  intro w mean mg mb dp un gd cn cs a ccd cl outer A₀ base h₀ L m news s Q E B F X N T hk hpre hdp hun hret hbad
  refine wpAny_call ?_
  k_dflt cell_enter
  k_with_none
  (with_reducible rename Fr h₀ L _ m => FG9)
  have hl9 := Fr.lst FG9 hpre
  clear FG9
  have lb := long_bnd ns
  unfold longOf at lb
  have fb := fmod_bnd (lawAt ns 3) 5 (by decide)
  have fc := fmod_bnd (lawAt ns 6) 3 (by decide)
  k_with "call ref cons nil" => first
    | ((with_reducible show wpAny _ _ (call (Value.ref 146) _) _ _ _); ktr_call (law_at_says _ _ _ _ _ hi ?kp) 0)
    | ((with_reducible show wpAny _ _ (call (Value.ref 151) _) _ _ _); ktr_call (run_says _ _ _ _ ?kp) 0)
    | ((with_reducible show wpAny _ _ (call (Value.ref 156) _) _ _ _); ktr_call (pair2 ns _ _ _) 2)
  k_with "size" => first | (split <;> omega) | exact (long_bnd ns).1 | exact Int.le_trans (long_bnd ns).2 (by decide)
  k_with "table" => skip
  k_with "call type:int" => ((have fg : Figs (runText (lawAt ns 2 + 2) (1 + (lawAt ns 6).fmod 3)) := (runText_run _ (by omega)).figs (by omega)); refine call_figures (by exact Heap.NoDigits.keeps (Top.nodigits (by assumption)) (Fr.keep (by assumption))) fg.all fg.ne (Nat.le_trans fg.len (by decide)) ?_; (first | change wpAny _ _ _ _ _ _ | change Back _ _ _ _ _ _ _ _))
  k_with "call builtin:str.replace" => ((with_reducible rename _ = whole2 _ => kW); (with_reducible refine' replace_to (strike_whole kW) ?zzu ?zzv ?zzuv ?zzyz ?zzhx ?zzhz ?_); (case zzu => exact Nat.succ_ne_zero _); (case zzv => exact Nat.succ_ne_zero _); (case zzuv => exact Nat.ne_of_lt (Nat.lt_succ_self _)); (case zzyz => exact dot_ne); (case zzhx => omega); (case zzhz => exact Nat.le_of_ble_eq_true rfl); intro _ _; (try dsimp only))
  k_with "cut9" => first
    | ((with_reducible show wpAny _ _ (eval (Expr.IfExp (Expr.Compare (Expr.Name (Str.ofString "long") _) _ _ _) _ _ _) _) _ _ _); k_dflt (refine' cut_to (fun v => ∃ (W : Str) (t : Tok), v = Value.str W t ∧ W = whole2 ns ∧ W.length ≤ 1002) ?cF1 ?cN1 ?ca1 ?cb1; (case cF1 => k_asm); (case cN1 => k_asm); (case' cb1 => (intro v9 h9 tk9 p9 F9 N9; (obtain ⟨W9, t9, e9, hW9, hWl9⟩ := p9); subst e9; (try k_sweep); (try dsimp only)))))
    | ((with_reducible show wpAny _ _ (eval (Expr.IfExp (Expr.Compare (Expr.Name (Str.ofString "sign") _) _ _ _) _ _ _) _) _ _ _); k_dflt (refine' cut_to (fun v => ∃ (z : Int) (t : Tok), v = Value.int z t ∧ z = value2 ns) ?cF2 ?cN2 ?ca2 ?cb2; (case cF2 => k_asm); (case cN2 => k_asm); (case' cb2 => (intro v9 h9 tk9 p9 F9 N9; (obtain ⟨z9, t9, e9, hz9⟩ := p9); subst e9; (try k_sweep); (try dsimp only)))))
    | ((with_reducible show wpAny _ _ (eval (Expr.IfExp (Expr.Compare (Expr.Name (Str.ofString "letter") _) _ _ _) _ _ _) _) _ _ _); k_dflt (refine' cut_to1 (fun v => ∃ (k : Str) (t : Tok), v = Value.str k t ∧ k = kind2 ns) ?cF3 ?cN3 ?ca3 ?cb3; (case cF3 => k_asm); (case cN3 => k_asm); (case' cb3 => (intro v9 h9 tk9 p9 F9 N9; (obtain ⟨k9, t9, e9, hk9⟩ := p9); subst e9; (try k_sweep); (try dsimp only)))))
  k_steps
  all_goals first
    | ((with_reducible show Back _ _ _ _ _ _ _ _); refine Back.intro (by assumption) (by assumption) ?_; first
        | exact ⟨_, _, rfl, (if_pos (by assumption)).symm, by rw [Str.length_append, one0]; omega⟩
        | exact ⟨_, _, rfl, (if_neg (by assumption)).symm, by rw [Str.length_append, oned]; omega⟩
        | exact ⟨_, _, rfl, (if_pos (by assumption)).symm⟩
        | exact ⟨_, _, rfl, (if_neg (by assumption)).symm⟩
        | exact ⟨_, _, rfl, (if_neg (ne_of_false (by assumption))).symm⟩)
    | ((with_reducible show Back1 _ _ _ _ _ _ _ _); refine Back1.intro (by assumption) (by assumption) ?_; first
        | exact ⟨_, _, rfl, (if_pos (by assumption)).symm⟩
        | exact ⟨_, _, rfl, (if_neg (by assumption)).symm⟩
        | exact ⟨_, _, rfl, (if_neg (ne_of_false (by assumption))).symm⟩)
    | ((with_reducible rename News _ L _ _ => kN9); (with_reducible rename _ = whole2 _ => kW); (with_reducible rename _ = value2 _ => kz); (with_reducible rename _ = kind2 _ => kk)
       exact hret _ [_, _] _ _ (by assumption) (fun p hp => kN9 p ((List.mem_cons.mp hp).elim (fun e => List.mem_cons.mpr (.inl e)) (fun e => (List.mem_cons.mp e).elim (fun e => .tail _ (List.mem_cons.mpr (.inl e))) (fun e => .tail _ (.tail _ (.tail _ (.tail _ e))))))) (out_l (.head _) (congrArg (· ++ tailS ns) kW) kk (dat_tup2 (.tail _ (.head _)) (dat_int rfl) (dat_int kz)) (seqs_cons ⟨_, _, rfl⟩ (seqs_cons ⟨_, _, rfl⟩ seqs_nil))))
end Mine

end

theorem Mine.top_off_U8 : True := by
  w_top off
  trivial

section
open PySem PySem.Calls
set_option maxRecDepth 100000
namespace Mine

/-! ## a LexFault is made -/
abbrev bmX : List Value := [.ref 31, .type "Exception", .type "BaseException", .type "object"]

section
variable {M : Model} {A : Around} {E : Value → Shared → Prop} {h : Heap} {g : Array GenState} {d : Drawn} {t : Nat} {os : OsState}
variable {nm q : Str} {C N : Addr} {bs : List Value} {hdct : Bool} {sn : List Str} {sub : List Value} {ab : Bool} {col : Option Bool} {dd : Option Addr} {k0 k1 k2 k3 k5 : Option Value}

theorem chk_new {rest : List Value} {Q : Unit → Shared → Prop} (hC : h.get? C = some (excClassObj nm q C N bs bmX hdct sn sub ab col dd k0 k1 k2 k3 k5 "Exception.__new__"))
    (hq : Q () ⟨h, g, d, t, os⟩) : wpAny M A (checkBuiltinCall "Exception.__new__" ⟨.ref C :: rest, []⟩) Q E ⟨h, g, d, t, os⟩ := by
  have F := PySem.F.excBase_Exception
  have hcont : (Value.ref C :: bmX).contains (.type "Exception") = true := rfl
  have hstar := F.noStar
  simp only [checkBuiltinCall, F.newKind, F.newSplit, F.newRow]
  repeat (first | refine wpAny_loadPart_at hC ?_ | (refine wpAny_isSubtype_exc hC ?_; rw [hcont]) | refine wpAny_staticBase_exc hC ?_ | refine wpAny_madeBy_exc hC ?_ | simp only [bne_self_eq_false, Bool.false_eq_true, if_false] | wp_step)
  exact hq
end

section
variable {prog : Program} {w : World} {A : Around} {R : Result → Shared → Prop} {h : Heap} {g : Array GenState} {d : Drawn} {t : Nat} {os : OsState}
variable {nm q : Str} {C N : Addr} {bs : List Value} {hdct : Bool} {sn : List Str} {sub : List Value} {ab : Bool} {col : Option Bool} {dd : Option Addr} {k0 k1 k2 k3 k5 : Option Value}

theorem made_raw {rest : List Value} (hC : h.get? C = some (excClassObj nm q C N bs bmX hdct sn sub ab col dd k0 k1 k2 k3 k5 "Exception.__new__"))
    (hq : R (.ok (.ret (.ref (h.objs.size + 1)))) ⟨(h.push { cls := .type "tuple", data := .seq rest.toArray }).push
      { cls := .ref C, data := .fields #[.ref h.objs.size, .none, .none, .none, .bool false, .none] }, g, d, t, os⟩) (hrest : rest.length ≤ sizeLine := by size_fits) :
    codeAny (model prog w) A (.builtin "Exception.__new__" ⟨.ref C :: rest, []⟩) R ⟨h, g, d, t, os⟩ := by
  have F := PySem.F.excBase_Exception
  have hends := F.ends
  have hcB : (Value.ref C :: bmX).contains (.type "Exception") = true := rfl
  have hcA : (Value.ref C :: bmX).contains (.type "AttributeError") = false := rfl
  have hcN : (Value.ref C :: bmX).contains (.type "NameError") = false := rfl
  refine codeAny_builtinAt F.entry ?_
  unfold Builtin.«BaseException.__new__»
  refine wpAt_bind ?_
  show wpAt _ _ _ (stack >>= _) _ _ _
  refine wpAt_bind (wpAt_stack fun p below => wpAt_of_wpAny ?_)
  wp_walk
  refine wpAt_of_wpAny ?_
  rw [F.owner]
  repeat (first | with_reducible refine wpAny_madeHere_exc F.canon hC ?_ | with_reducible refine wpAny_loadPart_at hC ?_ | (with_reducible refine wpAny_isSubtype_exc hC ?_; first | rw [hcB] | rw [hcA] | rw [hcN]) | wp_step)
  show R _ _
  rw [Heap.size_push]
  exact hq
end

section
variable {prog : Program} {w : World} {A : Around} {E : Value → Shared → Prop} {h : Heap} {g : Array GenState} {d : Drawn} {t : Nat} {os : OsState}
variable {nm q : Str} {C N : Addr} {bs : List Value} {hdct : Bool} {sn : List Str} {sub : List Value} {ab : Bool} {col : Option Bool} {dd : Option Addr} {k0 k1 k2 k3 k5 : Option Value}

theorem init_found {mN : Str → Option Value} {fI : Addr} {Q : Option Value → Shared → Prop} (hC : h.get? C = some (excClassObj nm q C N bs bmX hdct sn sub ab col dd k0 k1 k2 k3 k5 "Exception.__new__")) (hn : h.Ns N mN) (hi : mN "__init__" = some (.ref fI))
    (hq : Q (some (.ref fI)) ⟨h, g, d, t, os⟩) : wpAny (model prog w) A (typeLookup (.ref C) "__init__") Q E ⟨h, g, d, t, os⟩ := by
  rw [typeLookup_eq]
  refine wpAny_bind (wpAny_mroOf_exc hC ?_)
  rw [lookupAlong_cons]
  refine wpAny_bind (wpAny_classOwn_exc hC hn ?_)
  rw [hi]
  exact wpAny_pure hq

theorem made_init {mN : Str → Option Value} {rest : List Value} {fI : Addr} {oI : Obj} {Q : Fin → Shared → Prop}
    (hC : h.get? C = some (excClassObj nm q C N bs bmX hdct sn sub ab col dd k0 k1 k2 k3 k5 "Exception.__new__")) (hn : h.Ns N mN) (hi : mN "__init__" = some (.ref fI))
    (hfI : h.get? fI = some oI) (hfc : oI.cls = .type "function")
    (hq : wpAny (model prog w) A (call (.ref fI) (.ref (h.objs.size + 1) :: rest)) (fun r s' => r = .none ∧ Q (.done (.ret (.ref (h.objs.size + 1)))) s') E
      ⟨(h.push { cls := .type "tuple", data := .seq rest.toArray }).push { cls := .ref C, data := .fields #[.ref h.objs.size, .none, .none, .none, .bool false, .none] }, g, d, t, os⟩) (hrest : rest.length ≤ sizeLine := by size_fits) :
    wpAny (model prog w) A (Builtin.«type.__call__» ⟨.ref C :: rest, []⟩) Q E ⟨h, g, d, t, os⟩ := by
  have F := PySem.F.excBase_Exception
  repeat (first | with_reducible refine wpAny_loadPart_at hC ?_ | with_reducible refine wpAny_madeBy_exc hC ?_ | wp_step)
  refine codeAny_call_builtin_code (Code.quiet_builtin _ F.quiet) (chk_new hC ?_)
  refine made_raw hC ?_ hrest
  show wpAny _ _ _ _ _ _
  have hC₁ := Heap.get?_push_of_some { cls := .ref C, data := .fields #[.ref h.objs.size, .none, .none, .none, .bool false, .none] }
    (Heap.get?_push_of_some { cls := .type "tuple", data := .seq rest.toArray } hC)
  have hfI₁ := Heap.get?_push_of_some { cls := .ref C, data := .fields #[.ref h.objs.size, .none, .none, .none, .bool false, .none] }
    (Heap.get?_push_of_some { cls := .type "tuple", data := .seq rest.toArray } hfI)
  have hn₁ : ((h.push { cls := .type "tuple", data := .seq rest.toArray }).push { cls := .ref C, data := .fields #[.ref h.objs.size, .none, .none, .none, .bool false, .none] }).Ns N mN :=
    let ⟨o, es, ep, e, r⟩ := hn; ⟨o, es, ep, Heap.get?_push_of_some _ (Heap.get?_push_of_some _ e), r⟩
  have hget : ((h.push { cls := .type "tuple", data := .seq rest.toArray }).push
      { cls := .ref C, data := .fields #[.ref h.objs.size, .none, .none, .none, .bool false, .none] }).get? (h.objs.size + 1) = some
      { cls := .ref C, data := .fields #[.ref h.objs.size, .none, .none, .none, .bool false, .none] } := by heap_get
  have hcC : (Value.ref C :: bmX).contains (.ref C) = true := by simp
  unfold isInstance
  repeat (first | with_reducible refine wpAny_loadPart_at hget ?_ | (with_reducible refine wpAny_isSubtype_exc hC₁ ?_; rw [hcC]) | wp_step)
  show wpAny _ _ (typeLookup (.ref C) _) _ _ _
  refine init_found hC₁ hn₁ hi ?_
  refine wpAny_holding (wpAny_bind ?_)
  unfold bindSpecial
  refine wpAny_bind (wpAny_typeOf (T := "function") ⟨_, hfI₁, hfc⟩ ?_)
  rw [if_pos (by decide)]
  refine wpAny_pure (wpAny_bind (wpAny_mono hq (fun r s' hr => ?_) fun _ _ x => x))
  obtain ⟨rfl, hQ⟩ := hr
  wp_walk
  exact hQ

/-- the call of an own exception class whose __init__ is the text's -/
theorem fault_made {mN : Str → Option Value} {rest : List Value} {fI : Addr} {oI : Obj} {Q : Value → Shared → Prop}
    (hC : h.get? C = some (excClassObj nm q C N bs bmX hdct sn sub ab col dd k0 k1 k2 k3 k5 "Exception.__new__")) (hn : h.Ns N mN) (hi : mN "__init__" = some (.ref fI))
    (hfI : h.get? fI = some oI) (hfc : oI.cls = .type "function")
    (hq : wpAny (model prog w) (A.under (.builtin "type.__call__" ⟨.ref C :: rest, []⟩)) (call (.ref fI) (.ref (h.objs.size + 1) :: rest)) (fun r s' => r = .none ∧ Q (.ref (h.objs.size + 1)) s') E
      ⟨(h.push { cls := .type "tuple", data := .seq rest.toArray }).push { cls := .ref C, data := .fields #[.ref h.objs.size, .none, .none, .none, .bool false, .none] }, g, d, t, os⟩) (hrest : rest.length ≤ sizeLine := by size_fits) :
    wpAny (model prog w) A (call (.ref C) rest) Q E ⟨h, g, d, t, os⟩ := by
  have f1 := tc_lookup
  have f2 := tc_bind (.ref C)
  have hT : (⟨h, g, d, t, os⟩ : Shared).TypeIs (.ref C) "type" := ⟨_, hC, rfl⟩
  refine wpAny_call (codeAny_of_tree ?_)
  show wpAny _ _ (callAny (.ref C) _) _ _ _
  repeat (any_goals (first | assumption | with_reducible refine wpAny_loadPart_at hC ?_ | wp_step))
  refine ⟨rfl, ?_⟩
  exact codeAny_call_builtin_at (Code.quiet_builtin _ (by decide +kernel)) entry_typeCall (wpAny_check_type_call_sub hC (made_init (hrest := hrest) hC hn hi hfI hfc hq))
end
end Mine

end

theorem Mine.top_off_X2 : True := by
  w_top off
  trivial

section
open PySem PySem.W PySem.Calls PyProof.Rows
open Builtin Builtin.ObjectAttr
set_option maxRecDepth 100000
namespace Mine

theorem fill3 : True := by
  have kk : (PySem.Challenge.rw_pf0117_01 = PySem.Challenge.rw_pf0117_01 ∧ Mine.hd.heap_1 = Mine.hd.heap_1) → True := by
    k_fill
    intro _; trivial
  trivial

section
variable {prog : Program} {w : World} {A : Around} {E : Value → Shared → Prop} {s : Shared} {h₀ : Heap} {L x : Addr} {m : Str → Option Value} {news : Led} {R : Result → Shared → Prop} {name : Str} {tk : Tok} {v : Value}

theorem cls51 (w : World) : ∃ cd, clsIn (Mine.hd.heap_1 w.params) 51 = some cd ∧ cd.mro = .ref 51 :: bmX ∧ cd.hasDict = true := ⟨_, by k_is, rfl, rfl⟩

theorem exc_osa {ox : Obj} {od : Option Obj} (X : (Mine.hd.heap_1 w.params).In s.heap) (I : InstAt s.heap x ox 51 od) (ha : findIn (Mine.hd.heap_1 w.params) (.ref 51) name = some none)
    (h : wpAny (model prog w) A.in1 (storeInOwnDict (.ref x) (.ref 51) (.str name tk) name v false)
      (fun fin s' => match fin with | .done f => R (.ok f) s' | .again c' => c'.quiet = true ∧ codeAny (model prog w) A c' R s') (fun e s' => R (.error e) s') s) :
    codeAny (model prog w) A (.call (.builtin "object.__setattr__") ⟨[.ref x, .str name tk, v], []⟩) R s := by
  have SF := PySem.F.store_Exception
  obtain ⟨cd, hc, hmro, _⟩ := cls51 w
  have sub : Looks (model prog w) s.heap (isInstance (.ref x) (.type "object")) true := I.type.andThen (looks_mroIn X (by k_is))
  refine codeAny_call_builtin SF.slot.plain SF.entry (@check_slot (model prog w) _ _ s "object.__setattr__" "object" "__setattr__" (.ref x) [.str name tk, v] [] _ SF.kind SF.split sub (SF.args (.ref x) (.str name tk) v) ?_)
  have hm : Looks (model prog w) s.heap (mroOf (.ref 51)) cd.mro := (looks_clsIn X hc).andThen .now
  rw [osa_eq, refuse_eq]
  refine wpAny_bind (wpAny_bind (I.type.here (wpAny_bind (hm.here ?_))))
  rw [hmro, refuseLoop_ref, bmX, refuseLoop_ref, SF.passes]
  refine wpAny_pure (wpAny_bind (I.type.here (wpAny_bind ((looks_findIn X ha).here (wpAny_bind ?_)))))
  exact (Looks.now (M := model prog w) (h := s.heap) (a := (none : Option Value))).here h

theorem exc_set_first {Q : Unit → Shared → Prop} {vs : Array Value} {sl : Array (Option Value)} (F : Fr h₀ L s.heap m) (X₀ : (Mine.hd.heap_1 w.params).In h₀) (N : News h₀ L s.heap ((x, ⟨.ref 51, none, .fields vs, sl⟩) :: news)) (hne : ∀ p ∈ news, p.1 ≠ x)
    (ha : findIn (Mine.hd.heap_1 w.params) (.ref 51) name = some none)
    (h : ∀ dx h', Fr h₀ L h' m → News h₀ L h' ((dx, dictOf [⟨PyData.keyHash w.params name, .str name (s.toks + 1), v⟩] 1) :: (x, ⟨.ref 51, some dx, .fields vs, sl⟩) :: news) → (∀ p ∈ news, p.1 ≠ dx) → x ≠ dx → Q () { s with heap := h', toks := s.toks + 2 }) :
    wpAny (model prog w) A (setAttr (.ref x) name v) Q E s := by
  have X := X₀.keeps F.keep
  have hx : s.heap.get? x = some ⟨.ref 51, none, .fields vs, sl⟩ := (N _ (.head _)).1
  have I : InstAt s.heap x ⟨.ref 51, none, .fields vs, sl⟩ 51 none := ⟨hx, rfl, rfl, trivial⟩
  obtain ⟨cd, hc, hmro, hdict⟩ := cls51 w
  refine set_plain X I (by k_is) (exc_osa (s := { s with toks := s.toks + 1 }) X I ha ?_)
  obtain ⟨hp, g, d, t, os⟩ := s
  have hcd := (looks_clsIn (M := model prog w) X hc)
  have hxs : x ≠ hp.objs.size := Nat.ne_of_lt (Heap.lt_size hx)
  have hxs2 : ∀ p ∈ news, p.1 ≠ hp.objs.size := fun p q => Nat.ne_of_lt (Heap.lt_size (N p (.tail _ q)).1)
  have F1 := F.push emptyDict
  have N1 := N.push F emptyDict
  dsimp only at F1 N1
  obtain ⟨F2, N2⟩ := news_upd (pre := [(hp.objs.size, emptyDict)]) (post := news) (d := x) (o := ⟨.ref 51, none, .fields vs, sl⟩) (o' := ⟨.ref 51, some hp.objs.size, .fields vs, sl⟩) (f := fun o => { o with dict := some hp.objs.size }) F1 N1
    (fun p q => by rw [List.mem_singleton.mp q]; exact hxs.symm) hne rfl rfl
  obtain ⟨F3, N3⟩ := news_upd (pre := []) (post := (x, ⟨.ref 51, some hp.objs.size, .fields vs, sl⟩) :: news) (d := hp.objs.size) (o := emptyDict) (o' := dictOf [⟨PyData.keyHash w.params name, .str name (t + 1), v⟩] 1) (f := Obj.putName name (PyData.keyHash w.params name) (.str name (t + 1)) v) F2 N2
    (fun p q => nomatch q) (fun p q => by
      rcases List.mem_cons.mp q with rfl | q
      · exact hxs
      · exact hxs2 p q) (putName_dict name _ _ _ [] 0) rfl
  refine wpAny_bind (wpAny_pure (wpAny_bind (wpAny_bind (wpAny_loadPart hx (wpAny_bind (hcd _ _ _ _ (fun _ _ e => e) ?_))))))
  rw [hdict]
  dsimp only [Bool.not_true, Bool.false_eq_true, if_false, Bool.not_false, Bool.false_or]
  refine wpAny_bind (wpAny_alloc ?_)
  refine wpAny_bind (wpAny_update (o := ⟨.ref 51, none, .fields vs, sl⟩) (Heap.get?_push_of_some _ hx) ?_)
  refine wpAny_pure (a := some hp.objs.size) (wpAny_bind (wpAny_pure (wpAny_bind ?_)))
  unfold nsSet
  refine wpAny_bind (wpAny_bind (wpAny_askSetting (wpAny_pure (wpAny_bind (wpAny_mkText (wpAny_bind (wpAny_loadPart (N2 _ (.head _)).1 ?_)))))))
  dsimp only [emptyDict]
  have c : (!(#[] : Array DictEntry).any (·.key.isStr name) && (#[] : Array DictEntry).any (·.refKey)) = false := by simp
  rw [aRefKeyMayBeTheName_at, c]
  refine wpAny_updatePart (N2 _ (.head _)).1 ?_
  refine wpAny_bind (wpAny_lookBehind (N3 _ (.head _)).1 (by exact pastItsLine_dict (by rw [sizeLine_eq]; exact Nat.le_of_ble_eq_true rfl)) ?_)
  exact wpAny_pure (h _ _ F3 N3 hxs2 hxs)

theorem exc_set_again {Q : Unit → Shared → Prop} {dx : Addr} {vs : Array Value} {sl : Array (Option Value)} {es es' : List DictEntry} {n n' : Nat} (F : Fr h₀ L s.heap m) (X₀ : (Mine.hd.heap_1 w.params).In h₀)
    (N : News h₀ L s.heap ((dx, dictOf es n) :: (x, ⟨.ref 51, some dx, .fields vs, sl⟩) :: news)) (hne : ∀ p ∈ news, p.1 ≠ dx) (hxd : x ≠ dx)
    (ha : findIn (Mine.hd.heap_1 w.params) (.ref 51) name = some none) (hl : (getL name es).isSome = true)
    (e : (putL name (PyData.keyHash w.params name) (.str name (s.toks + 1)) v es, putN name es n) = (es', n')) (hz : es'.length ≤ 1000)
    (h : ∀ h', Fr h₀ L h' m → News h₀ L h' ((dx, dictOf es' n') :: (x, ⟨.ref 51, some dx, .fields vs, sl⟩) :: news) → Q () { s with heap := h', toks := s.toks + 2 }) :
    wpAny (model prog w) A (setAttr (.ref x) name v) Q E s := by
  have X := X₀.keeps F.keep
  have hx : s.heap.get? x = some ⟨.ref 51, some dx, .fields vs, sl⟩ := (N _ (.tail _ (.head _))).1
  have I : InstAt s.heap x ⟨.ref 51, some dx, .fields vs, sl⟩ 51 (some (dictOf es n)) := ⟨hx, rfl, rfl, (N _ (.head _)).1⟩
  obtain ⟨cd, hc, hmro, hdict⟩ := cls51 w
  refine set_plain X I (by k_is) (exc_osa (s := { s with toks := s.toks + 1 }) X I ha ?_)
  obtain ⟨hp, g, d, t, os⟩ := s
  have hcd := (looks_clsIn (M := model prog w) X hc)
  obtain ⟨e1, e2⟩ := Prod.mk.inj e
  obtain ⟨F3, N3⟩ := news_upd (pre := []) (post := (x, ⟨.ref 51, some dx, .fields vs, sl⟩) :: news) (d := dx) (o := dictOf es n) (o' := dictOf es' n') (f := Obj.putName name (PyData.keyHash w.params name) (.str name (t + 1)) v) F N
    (fun p q => nomatch q) (fun p q => by
      rcases List.mem_cons.mp q with rfl | q
      · exact hxd
      · exact hne p q) (by rw [putName_dict, e1, e2]) rfl
  refine wpAny_bind (wpAny_pure (wpAny_bind (wpAny_bind (wpAny_loadPart hx (wpAny_bind (hcd _ _ _ _ (fun _ _ e => e) ?_))))))
  rw [hdict]
  refine wpAny_pure (a := some dx) (wpAny_bind (wpAny_pure (wpAny_bind ?_)))
  unfold nsSet
  refine wpAny_bind (wpAny_bind (wpAny_askSetting (wpAny_pure (wpAny_bind (wpAny_mkText (wpAny_bind (wpAny_loadPart (N _ (.head _)).1 ?_)))))))
  dsimp only [dictOf]
  have c : (!es.toArray.any (·.key.isStr name) && es.toArray.any (·.refKey)) = false := by
    rw [← Array.any_toList, ← Array.any_toList]
    unfold getL at hl
    split at hl
    · rename_i en he
      rw [List.any_eq_true.mpr ⟨en, List.mem_of_find?_eq_some he, List.find?_some he⟩]; rfl
    · split at hl
      · cases hl
      · rename_i z; rw [Bool.not_eq_true] at z; rw [z, Bool.and_false]
  rw [aRefKeyMayBeTheName_at, c]
  refine wpAny_updatePart (N _ (.head _)).1 ?_
  refine wpAny_bind (wpAny_lookBehind (N3 _ (.head _)).1 (by exact pastItsLine_dict (by rw [List.size_toArray, sizeLine_eq]; omega)) ?_)
  exact wpAny_pure (h _ F3 N3)
end
end Mine

end

theorem Mine.top_off_X3 : True := by
  w_top off
  trivial

section
open PySem PySem.Calls
set_option maxRecDepth 100000
namespace Mine
theorem fill4 : True := by
  have kk : (PySem.Challenge.rw_pf0117_01 = PySem.Challenge.rw_pf0117_01 ∧ Mine.hd.heap_1 = Mine.hd.heap_1) → True := by
    k_fill
    intro _; trivial
  trivial
open PySem.W in
theorem obj51 (w : World) : ∃ nm q bs hdct sn sub ab col dd k0 k1 k2 k3 k5, (Mine.hd.heap_1 w.params).lookup 51 = some (excClassObj nm q 51 50 bs bmX hdct sn sub ab col dd k0 k1 k2 k3 k5 "Exception.__new__") :=
  ⟨_, _, _, _, _, _, _, _, _, _, _, _, _, _, by k_is⟩
section
variable {M : Model} {prog : Program} {w : World} {A : Around} {E : Value → Shared → Prop} {h : Heap} {g : Array GenState} {d : Drawn} {t : Nat} {os : OsState}
variable {nm q : Str} {C N : Addr} {bs : List Value} {hdct : Bool} {sn : List Str} {sub : List Value} {ab : Bool} {col : Option Bool} {dd : Option Addr} {k0 k1 k2 k3 k5 : Option Value}

theorem chk_init {e : Addr} {oe : Obj} {rest : List Value} {Q : Unit → Shared → Prop}
    (hC : h.get? C = some (excClassObj nm q C N bs bmX hdct sn sub ab col dd k0 k1 k2 k3 k5 "Exception.__new__")) (he : h.get? e = some oe) (hcls : oe.cls = .ref C) (hq : Q () ⟨h, g, d, t, os⟩) :
    wpAny M A (checkBuiltinCall "Exception.__init__" ⟨.ref e :: rest, []⟩) Q E ⟨h, g, d, t, os⟩ := by
  have F := PySem.F.excBase_Exception
  have hcB : (Value.ref C :: bmX).contains (.type "Exception") = true := rfl
  have hshort := F.noStar
  simp only [checkBuiltinCall, F.initKind, F.initSplit, F.initRow]
  repeat (first | (with_reducible refine wpAny_loadPart_at he ?_; rw [hcls]) | with_reducible refine wpAny_loadPart_at hC ?_ | (with_reducible refine wpAny_isSubtype_exc hC ?_; rw [hcB]) | wp_step)
  refine wpAny_onRaise ?_
  rw [show ∀ (a b : String) (n : Nat), Bind.check ⟨.positional, "*", "Exception", .self, [⟨"args", .varPos, false⟩]⟩ a b n (List.map (fun x => x.fst) ({ pos := Value.ref e :: rest } : Args).kw) = pure () from
    fun a b n => check_star_args _ _ _ _ _ _]
  exact wpAny_pure hq

theorem exc_init_call {e : Addr} {od : Option Addr} {t0 : Addr} {sl : Array (Option Value)} {x : Value} {Q : Value → Shared → Prop}
    (hC : h.get? C = some (excClassObj nm q C N bs bmX hdct sn sub ab col dd k0 k1 k2 k3 k5 "Exception.__new__")) (he : h.get? e = some ⟨.ref C, od, .fields #[.ref t0, .none, .none, .none, .bool false, .none], sl⟩)
    (hq : Q .none ⟨(h.push { cls := .type "tuple", data := .seq #[x] }).update e (Obj.mapFields (·.setIfInBounds 0 (.ref h.objs.size))), g, d, t, os⟩) :
    wpAny (model prog w) A (call (.builtin "Exception.__init__") [.ref e, x]) Q E ⟨h, g, d, t, os⟩ := by
  have F := PySem.F.excBase_Exception
  refine wpAny_call (codeAny_call_builtin F.init.plain F.initEntry (chk_init hC he rfl ?_))
  have he1 := Heap.get?_push_of_some { cls := .type "tuple", data := .seq #[x] } he
  wp_walk
  exact hq

open PySem.W PyProof.Rows in
/-- Exception.__init__ of an exception that stands on the ledger: a new tuple of arguments -/
theorem exc_init_K {s : Shared} {h₀ : Heap} {L e : Addr} {m : Str → Option Value} {news : Led} {od : Option Addr} {t0 : Addr} {sl : Array (Option Value)} {x : Value} {Q : Value → Shared → Prop}
    (F : Fr h₀ L s.heap m) (X₀ : (Mine.hd.heap_1 w.params).In h₀) (N : News h₀ L s.heap ((e, ⟨.ref 51, od, .fields #[.ref t0, .none, .none, .none, .bool false, .none], sl⟩) :: news)) (hne : ∀ p ∈ news, p.1 ≠ e)
    (h : ∀ t1 h', Fr h₀ L h' m → News h₀ L h' ((e, ⟨.ref 51, od, .fields #[.ref t1, .none, .none, .none, .bool false, .none], sl⟩) :: news) → Q .none { s with heap := h' }) :
    wpAny (model prog w) A (call (.builtin "Exception.__init__") [.ref e, x]) Q E s := by
  have X := X₀.keeps F.keep
  obtain ⟨nm, q, bs, hdct, sn, sub, ab, col, dd, k0, k1, k2, k3, k5, hl⟩ := obj51 w
  have hC := X _ _ hl
  have he := (N _ (.head _)).1
  obtain ⟨hp, g, d, t, os⟩ := s
  have F1 := F.push { cls := .type "tuple", data := .seq #[x] }
  have N1 := N.push F { cls := .type "tuple", data := .seq #[x] }
  have hes : e ≠ hp.objs.size := Nat.ne_of_lt (Heap.lt_size he)
  dsimp only at F1 N1
  obtain ⟨F2, N2⟩ := news_upd (pre := [(hp.objs.size, { cls := .type "tuple", data := .seq #[x] })]) (post := news) (d := e) (o := ⟨.ref 51, od, .fields #[.ref t0, .none, .none, .none, .bool false, .none], sl⟩)
    (o' := ⟨.ref 51, od, .fields #[.ref hp.objs.size, .none, .none, .none, .bool false, .none], sl⟩) (f := Obj.mapFields (·.setIfInBounds 0 (.ref hp.objs.size))) F1 N1
    (fun p q => by rw [List.mem_singleton.mp q]; exact hes.symm) hne rfl rfl
  exact exc_init_call hC he (h _ _ F2 fun p hp => N2 p (.tail _ hp))
end
end Mine

end

theorem Mine.top_off_X4 : True := by
  w_top off
  trivial

section
open PySem PySem.W PySem.Calls PyProof.Rows
set_option maxRecDepth 100000
namespace Mine
theorem fill5 : True := by
  have kk : (PySem.Challenge.rw_pf0117_01 = PySem.Challenge.rw_pf0117_01 ∧ Mine.hd.heap_1 = Mine.hd.heap_1) → True := by
    k_fill
    intro _; trivial
  trivial
theorem mg_at {K : Frag} {h : Heap} {N : Addr} {mg : Str → Option Value} {n : Str} {v : Value} (X : K.In h) (G : h.Ns N mg) (e : nsIn K N n = some (some v)) : mg n = some v := by
  obtain ⟨o, es, ep, ho, hd, _, hf⟩ := G
  unfold nsIn at e
  split at e
  · rename_i c d es' n' sl q
    have := X _ _ q
    rw [ho] at this
    cases this
    cases hd
    split at e
    · rename_i en he
      cases e
      rw [← hf]
      unfold nsFind findBy
      rw [← Array.find?_toList, he]
      rfl
    · split at e <;> cases e
  · cases e
theorem meta_exc : typeOf (.type "Exception") = pure (.type "type") := by kernel_rfl
theorem ns50 {w : World} {h : Heap} (X : (Mine.hd.heap_1 w.params).In h) : ∃ mN, h.Ns 50 mN ∧ mN "__init__" = some (.ref 48) := by
  have hok : nsOkIn (Mine.hd.heap_1 w.params) 50 = true := by kernel_rfl
  have hns := Heap.Ns.of_isNs (isNs_of_in X hok)
  refine ⟨_, hns, ?_⟩
  have e : nsIn (Mine.hd.heap_1 w.params) 50 (Str.ofString "__init__") = some (some (.ref 48)) := by k_is
  exact mg_at X hns e
set_option maxHeartbeats 8000000 in
theorem fault_new {w : World} {mean : ExcName → Option Value} {mg mb : Str → Option Value} {dp un : Nat} {gd : Option (List Code)} {cn : Str} {cs : Scope} {a : Addr} {ccd : Value} {cl : List (Str × Addr)} {outer : List Env} {A₀ : Around} {base h₀ : Heap} {L : Addr} {m : Str → Option Value} {news : Led} {s : Shared} {Q E : Value → Shared → Prop} {i : Int} {x : Str} {t1 t2 : Tok}
    (B : Below A₀ base outer h₀) (F : Fr h₀ L s.heap m) (X : (Mine.hd.heap_1 w.params).In h₀) (N : News h₀ L s.heap news) (T : Top Mine.hd.view_1 (looseW Mine.hd.view_1 []) mean mg mb h₀) (hk : cs.kind = .function)
    (hdp : dp + 3 < recursionLimit) (hun : un + 24 < cLine)
    (hret : ∀ e dx tt ti es n h' tk', Fr h₀ L h' m → News h₀ L h' ((dx, dictOf es n) :: (e, ⟨.ref 51, some dx, .fields #[.ref tt, .none, .none, .none, .bool false, .none], #[]⟩) :: news) → (∀ p ∈ news, p.1 ≠ e) → dx ≠ e → getL (Str.ofString "at") es = some (some (.int i ti)) → Q (.ref e) { s with heap := h', toks := tk' }) :
    wpAny (model Challenge.rw_pf0117_01.row.prog w) (ktrTop dp un gd cn cs L a ccd cl outer) (call (.ref 51) [.int i t1, .str x t2]) Q E s := by
  obtain ⟨nm, q, bs, hdct, sn, sub, ab, col, dd, k0, k1, k2, k3, k5, hl⟩ := obj51 w
  have X1 := X.keeps F.keep
  have hC := X1 _ _ hl
  obtain ⟨mN, hn, hi⟩ := ns50 X1
  obtain ⟨hp, g, d, t, os⟩ := s
  have F1 := (F.push { cls := .type "tuple", data := .seq #[.int i t1, .str x t2] }).push { cls := .ref 51, data := .fields #[.ref hp.objs.size, .none, .none, .none, .bool false, .none] }
  have N1 := (N.push F { cls := .type "tuple", data := .seq #[.int i t1, .str x t2] }).push (F.push _) { cls := .ref 51, data := .fields #[.ref hp.objs.size, .none, .none, .none, .bool false, .none] }
  dsimp only at F1 N1
  rw [Heap.size_push] at N1
  have N2 : News h₀ L _ ((hp.objs.size + 1, { cls := .ref 51, data := .fields #[.ref hp.objs.size, .none, .none, .none, .bool false, .none] }) :: news) := fun p hp => N1 p (by
    rcases List.mem_cons.mp hp with rfl | hp
    · exact .head _
    · exact .tail _ (.tail _ hp))
  have hne : ∀ p ∈ news, p.1 ≠ hp.objs.size + 1 := fun p q => Nat.ne_of_lt (Nat.lt_succ_of_lt (Heap.lt_size (N p q).1))
  clear N1
  refine fault_made hC hn hi (X1 _ _ (by k_is)) rfl ?_
  refine wpAny_call ?_
  k_dflt cell_enter
  k_with_none
  k_with "call ref cons nil" => (refine wpAny_call ?_; k_dflt (refine' code_def ?k1 ?k2 ?k3 ?k4 ?k5 ?kA ?kF ?kK ?k6 ?k7 ?k8 ?k9 ?kB ?_ ?c2 ?c3 ?c4 ?c5; (case kA => exact rfl); (case kF => exact rfl); (case kK => first | exact rfl | assumption); (case k1 => k_asm); (case k2 => k_asm); (case k3 => k_asm); (case k4 => k_asm); (case k5 => k_asm); (case k6 => k_is); (case k7 => k_is); (case k8 => ktr_room); (case k9 => exact BindsTo.of_eq rfl); (case c5 => decide); (case kB => exact locs rfl); (case c2 => exact rfl); (case c3 => exact rfl); (case c4 => exact rfl); k_whole; intro g' L' h' FG' F' N' B' X' T'; (try dsimp only); (try k_fold)))
  k_with "getMethod type:Exception" => (refine' method_type ?F ?X meta_exc (by decide +kernel) ?e ?h ?_; (case F => k_asm); (case X => k_asm); (case e => k_dflt k_is); (case h => k_handed))
  k_with "call builtin:Exception.__init__" => (k_dflt (refine' exc_init_K ?F ?X ?N ?e ?_; (case F => k_asm); (case X => k_asm); (case N => k_asm); (case e => assumption)); intro t9 h9 F9 N9; (try k_sweep))
  k_with "setAttr ref" => first
    | (k_dflt (refine' exc_set_first ?F ?X ?N ?e ?a ?_; (case F => k_asm); (case X => k_asm); (case N => k_asm); (case e => assumption); (case a => k_is)); intro d9 h9 F9 N9 n9 m9; (try k_sweep))
    | (k_dflt (refine' exc_set_again ?F ?X ?N ?e ?b ?a ?k10 ?k11 ?k13 ?_; (case F => k_asm); (case X => k_asm); (case N => k_asm); (case e => assumption); (case b => assumption); (case a => k_is); (case k10 => k_get); (case k11 => k_put); (case k13 => exact Nat.le_of_ble_eq_true rfl)); intro h9 F9 N9; (try k_sweep))
  k_steps
  exact hret _ _ _ _ _ _ _ _ (by assumption) (by assumption) hne (Ne.symm (by assumption)) (by k_get)
end Mine

end

theorem Mine.top_off_X5 : True := by
  w_top off
  trivial

section
open PySem PySem.Calls
set_option maxRecDepth 100000
namespace Mine

section
variable {M : Model} {A : Around} {E : Value → Shared → Prop} {s : Shared} {B : Heap} {env : Env} {outer : List Env} {L e dx : Addr} {C : Value}

/-- no record stands at b -/
abbrev NoRec (o : Obj) : Prop := ∀ vs, o.data ≠ .fields vs

theorem Fly.there {l : List Env} {fl : Value} {h : Heap} (x : Fly B l e C dx fl h) : ∃ oe, h.get? e = some oe ∧ oe.cls = C ∧ oe.dict = some dx ∧ ∃ vs, oe.data = .fields vs := by
  obtain ⟨_, _, _, oe, vs, _, _, _, h1, h2, h3, h4, _⟩ := x
  exact ⟨oe, h1, h2, h3, vs, h4⟩

theorem mapped_dict (o : Obj) (f : Array Value → Array Value) : (Obj.mapFields f o).dict = o.dict := by
  obtain ⟨c, d, dt, sl⟩ := o
  cases dt <;> rfl

theorem fly_entry {oe : Obj} {vs : Array Value} {head : Value} {hadNext : Bool} {Q : Unit → Shared → Prop}
    (hfr : A.frames = some (env :: outer)) (hl : s.heap.FunFrames B (env :: outer)) (hf : env.frame = some L)
    (he : s.heap.get? e = some oe) (hkb : B.StaysIn s.heap) (hen : B.get? e = none) (hd : oe.data = .fields vs) (hsz : 1 < vs.size) (hdx : oe.dict = some dx)
    (h : ∀ h', Fly B (env :: outer) e oe.cls dx (rawInt L) h' → s.heap.UpToSlots h' → Q () { s with heap := h' }) :
    wpAny M A (do let a ← frameOf env; let pl ← entryPlaceOf L hadNext; let b ← EntryCells.newEntry head a .none (rawInt L) .none pl; setField (.ref e) 1 b) Q E s := by
  have notFrame : e ∉ (env :: outer).filterMap (·.frame) := by
    intro hm
    obtain ⟨_, o, ho, hnf⟩ := hl.mem hm
    rw [he] at ho
    cases ho
    exact hnf vs hd
  refine wpAny_bind (wpAny_frameOf_fun hfr hl hf fun h₁ hs₁ => ?_)
  refine wpAny_bind (wpAny_entryPlaceOf fun pl hpl => ?_)
  unfold EntryCells.newEntry newFields
  refine wpAny_bind (wpAny_newObj_type ?_ (hpl.sizeOk5 _ _ _ _ _))
  generalize hT : ({ cls := .type "traceback", dict := none, data := .fields ([head, .ref L, .none, rawInt L, .none] ++ (if pl.isEmpty then List.replicate 6 Value.none else pl)).toArray } : Obj) = tb
  have he₁ : h₁.get? e = some oe := (hs₁.2.1 e notFrame).trans he
  have he₂ := Heap.get?_push_of_some (h := h₁) tb he₁
  refine wpAny_setField he₂ hd hsz ?_
  have hne : h₁.objs.size ≠ e := Nat.ne_of_gt (Heap.lt_size he₁)
  have kb₁ : B.StaysIn h₁ := fun b o hbo => (hs₁.2.1 b fun hm => by rw [(hl.mem hm).1] at hbo; cases hbo).trans (hkb b o hbo)
  have hd₃ := Obj.data_mapFields hd (·.setIfInBounds 1 (Value.ref h₁.objs.size))
  have he₃ := Heap.get?_update_self (Obj.mapFields (·.setIfInBounds 1 (Value.ref h₁.objs.size))) he₂ (Obj.isFreed_of_fields hd₃)
  have tbd : tb.data = .fields ([head, .ref L, .none, rawInt L, .none] ++ (if pl.isEmpty then List.replicate 6 Value.none else pl)).toArray := by rw [← hT]
  have tbf : tb.isFreed = false := by rw [← hT]; rfl
  have hT₃ := (Heap.get?_update_other (h₁.push tb) (Obj.mapFields (·.setIfInBounds 1 (Value.ref h₁.objs.size))) (Ne.symm hne)).trans (Heap.get?_push_size h₁ tbf)
  have keep : ∀ b o, b ≠ e → h₁.get? b = some o → ((h₁.push tb).update e (Obj.mapFields (·.setIfInBounds 1 (Value.ref h₁.objs.size)))).get? b = some o := fun b o hbe hb => by
    rw [Heap.get?_update_other _ _ (Ne.symm hbe)]
    exact Heap.get?_push_of_some _ hb
  have norec : ∀ b o, s.heap.get? b = some o → NoRec o → b ≠ e := by
    rintro b o hb hnf rfl
    rw [he] at hb
    cases hb
    exact hnf vs hd
  refine h _ ⟨fun b o hbo => keep b o (fun q => by rw [q, hen] at hbo; cases hbo) (kb₁ b o hbo), hen, hl.of_keeps fun b o hb hnf => ?_, ?_⟩ fun b o hb hnf => ?_
  · obtain ⟨sl, hs⟩ := hs₁.2.2 b o hb
    exact ⟨_, keep b _ (norec b o hb hnf) hs, rfl⟩
  · refine ⟨_, _, h₁.objs.size, _, _, he₃, Obj.cls_mapFields _ _, (mapped_dict _ _).trans hdx, hd₃, by simp [hsz], kb₁.fresh, hne, hT₃, tbd, ?_⟩
    first | (simp; done) | (rcases hpl with rfl | ⟨_, _, _, _, _, _, _, rfl⟩ <;> simp)
  · obtain ⟨sl, hs⟩ := hs₁.2.2 b o hb
    exact ⟨sl, keep b _ (norec b o hb hnf) hs⟩

theorem fly_note {Q : Unit → Shared → Prop} (hfr : A.frames = some (env :: outer)) (hf : env.frame = some L) (x : Fly B (env :: outer) e C dx .none s.heap)
    (h : ∀ h', Fly B (env :: outer) e C dx (rawInt L) h' → s.heap.UpToSlots h' → Q () { s with heap := h' }) : wpAny M A (noteFrame (.ref e) env) Q E s := by
  obtain ⟨hkb, hen, hl, oe, vs, T, oT, ts, he, hc, hdx, hd, h1, hnT, hTe, hT, hdT, h3⟩ := x
  subst hc
  unfold noteFrame
  simp only [hf]
  refine wpAny_bind (wpAny_field he hd h1 ?_)
  rw [if_pos (show (Value.ref T != Value.none) = true from by simp)]
  refine wpAny_bind (wpAny_field hT hdT h3 ?_)
  rw [if_neg (show ¬ ((Value.none == rawInt L) = true) from by simp [rawInt])]
  refine wpAny_bind (wpAny_setField hT hdT (Array.getElem?_eq_some_iff.mp h3).1 ?_)
  have other : ∀ b, b ≠ T → (s.heap.update T (Obj.mapFields (·.setIfInBounds 3 Value.none))).get? b = s.heap.get? b := fun b hb => Heap.get?_update_other _ _ (Ne.symm hb)
  have norec : ∀ b o, s.heap.get? b = some o → NoRec o → b ≠ T := by
    rintro b o hb hnf rfl
    rw [hT] at hb
    cases hb
    exact hnf ts hdT
  refine fly_entry hfr (hl.of_keeps fun b o hb hnf => ⟨o, (other b (norec b o hb hnf)).trans hb, rfl⟩) hf ((other e (Ne.symm hTe)).trans he)
    (fun b o hbo => (other b fun q => by rw [q, hnT] at hbo; cases hbo).trans (hkb b o hbo)) hen hd (Array.getElem?_eq_some_iff.mp h1).1 hdx fun h' y z => h h' y fun b o hb hnf => z b o ((other b (norec b o hb hnf)).trans hb) hnf

theorem fly_flight {l : List Env} {fl : Value} {Q : Unit → Shared → Prop} (x : Fly B l e C dx fl s.heap)
    (h : ∀ h', Fly B l e C dx .none h' → s.heap.UpToSlots h' → Q () { s with heap := h' }) : wpAny M A (setFlight (.ref e) none) Q E s := by
  obtain ⟨hkb, hen, hl, oe, vs, T, oT, ts, he, hc, hdx, hd, h1, hnT, hTe, hT, hdT, h3⟩ := x
  have hsz3 : 3 < ts.size := (Array.getElem?_eq_some_iff.mp h3).1
  have other : ∀ b, b ≠ T → (s.heap.update T (Obj.mapFields (·.setIfInBounds 3 ((none : Option Addr).elim Value.none fun f => rawInt f)))).get? b = s.heap.get? b :=
    fun b hb => Heap.get?_update_other _ _ (Ne.symm hb)
  have norec : ∀ b o, s.heap.get? b = some o → NoRec o → b ≠ T := by
    rintro b o hb hnf rfl
    rw [hT] at hb
    cases hb
    exact hnf ts hdT
  unfold setFlight
  refine wpAny_bind (wpAny_field he hd h1 ?_)
  rw [if_pos (show (Value.ref T != Value.none) = true from by simp)]
  refine wpAny_setField hT hdT hsz3 (h _ ⟨fun b o hbo => (other b fun q => by rw [q, hnT] at hbo; cases hbo).trans (hkb b o hbo), hen,
    hl.of_keeps fun b o hb hnf => ⟨o, (other b (norec b o hb hnf)).trans hb, rfl⟩, oe, vs, T, _, _, (other e (Ne.symm hTe)).trans he, hc, hdx, hd, h1, hnT, hTe,
    Heap.get?_update_self _ hT (Obj.isFreed_of_fields (Obj.data_mapFields hdT _)), Obj.data_mapFields hdT _, by simp [hsz3]⟩ fun b o hb hnf => ⟨o.slots, (other b (norec b o hb hnf)).trans hb⟩)

theorem fly_again {l : List Env} {Q : Unit → Shared → Prop} (hf : env.frame = some L) (x : Fly B l e C dx (rawInt L) s.heap) (h : Q () s) : wpAny M A (noteFrame (.ref e) env) Q E s := by
  obtain ⟨hkb, hen, hl, oe, vs, T, oT, ts, he, hc, hdx, hd, h1, hnT, hTe, hT, hdT, h3⟩ := x
  unfold noteFrame
  simp only [hf]
  refine wpAny_bind (wpAny_field he hd h1 ?_)
  rw [if_pos (show (Value.ref T != Value.none) = true from by simp)]
  refine wpAny_bind (wpAny_field hT hdT h3 ?_)
  rw [if_pos (show (rawInt L == rawInt L) = true from by simp)]
  exact wpAny_pure h

theorem fly_out {l : List Env} {fl : Value} {h : Heap} (x : Fly B (env :: l) e C dx fl h) : Fly B l e C dx fl h := by
  obtain ⟨k1, k2, ⟨_, _, k3⟩, k4⟩ := x
  exact ⟨k1, k2, k3, k4⟩

/-- it leaves the frame that it was raised in -/
theorem leaves_first {oe : Obj} {vs : Array Value} {Q : Unit → Shared → Prop} (hfr : A.frames = some (env :: outer)) (hf : env.frame = some L) (hl : s.heap.FunFrames B (env :: outer))
    (he : s.heap.get? e = some oe) (hkb : B.StaysIn s.heap) (hen : B.get? e = none) (hd : oe.data = .fields vs) (h1 : vs[1]? = some .none) (hdx : oe.dict = some dx)
    (h : ∀ h', Fly B outer e oe.cls dx .none h' → s.heap.UpToSlots h' → Q () { s with heap := h' }) : wpAny M A (leaving env (.ref e)) Q E s := by
  unfold leaving
  refine wpAny_bind ?_
  unfold noteFrame
  simp only [hf]
  refine wpAny_bind (wpAny_field he hd h1 ?_)
  rw [if_neg (by decide)]
  refine fly_entry hfr hl hf he hkb hen hd (Array.getElem?_eq_some_iff.mp h1).1 hdx fun h' y z => ?_
  exact fly_flight y fun h'' y' z' => h h'' (fly_out y') (z.trans z')

/-- it leaves a frame behind -/
theorem leaves_next {Q : Unit → Shared → Prop} (hfr : A.frames = some (env :: outer)) (hf : env.frame = some L) (x : Fly B (env :: outer) e C dx .none s.heap)
    (h : ∀ h', Fly B outer e C dx .none h' → s.heap.UpToSlots h' → Q () { s with heap := h' }) : wpAny M A (leaving env (.ref e)) Q E s := by
  unfold leaving
  refine wpAny_bind (fly_note hfr hf x fun h' y z => ?_)
  exact fly_flight y fun h'' y' z' => h h'' (fly_out y') (z.trans z')
end
end Mine

end

theorem Mine.top_off_X6 : True := by
  w_top off
  trivial

section
open PySem PySem.W PySem.Calls PyProof.Rows
set_option maxRecDepth 100000
namespace Mine

section
variable {M : Model} {A : Around} {E : Value → Shared → Prop} {s' : Shared} {base g G : Heap} {outer : List Env} {L a e dx : Addr} {m : Str → Option Value} {name : Str} {scope : Scope} {cd : Value} {Q : Unit → Shared → Prop} {news : Led} {i : Int}

/-- a LexFault just made leaves the frame that raised it -/
theorem throw_first {es : List DictEntry} {n : Nat} {tt : Addr} {ti : Tok} {sl : Array (Option Value)} (K : Below A base outer g) (F : Fr g L s'.heap m)
    (N : News g L s'.heap ((dx, dictOf es n) :: (e, ⟨.ref 51, some dx, .fields #[.ref tt, .none, .none, .none, .bool false, .none], sl⟩) :: news)) (hne : ∀ p ∈ news, p.1 ≠ e) (hde : dx ≠ e)
    (hat : getL (Str.ofString "at") es = some (some (.int i ti)))
    (hQ : ∀ h', Thrown base g outer e i news h' → g.UpToSlots h' → Q () { s' with heap := h' }) (hk : scope.kind = .function := by rfl) :
    wpAny M (A.deeper (envOf name scope L a cd)) (leaving (envOf name scope L a cd) (.ref e)) Q E s' := by
  have K' := K.push (name := name) (a := a) (cd := cd) F hk
  have hE := N _ (.tail _ (.head _))
  generalize hfs : (envOf name scope L a cd :: outer).filterMap (·.frame) = fs at *
  have hin : ∀ env ∈ (envOf name scope L a cd :: outer), ∀ b, env.frame = some b → b ∈ e :: fs := fun env he b hb => .tail _ (hfs ▸ List.mem_filterMap.mpr ⟨env, he, hb⟩)
  have hbase : base.get? e = none := fresh_of_stays K.stays hE.2.2
  have hmem : ∀ b, b ∈ fs → base.get? b = none := fun b hm => (K'.frames.mem (hfs ▸ hm)).1
  have st : base.StaysIn (hideAll s'.heap (e :: fs)) := fun b o q => hideAll_get _ (K'.stays b o q) fun hm => by
    rcases List.mem_cons.mp hm with rfl | hm
    · rw [hbase] at q; cases q
    · rw [hmem b hm] at q; cases q
  have sg : ∀ b o, g.get? b = some o → b ∉ outer.filterMap (·.frame) → (hideAll s'.heap (e :: fs)).get? b = some o := fun b o q nm => hideAll_get _ (F.keep b o q) fun hm => by
    rcases List.mem_cons.mp hm with rfl | hm
    · rw [hE.2.2] at q; cases q
    · rcases kts_mem (hfs ▸ hm : b ∈ (envOf name scope L a cd :: outer).filterMap (·.frame)) with z | z
      · rw [z, kts_self F] at q; cases q
      · exact nm z
  have hl : ∀ q ∈ (dx, dictOf es n) :: news, (hideAll s'.heap (e :: fs)).get? q.1 = some q.2 ∧ g.get? q.1 = none ∧ base.get? q.1 = none := fun q hq => by
    have hq' : q ∈ (dx, dictOf es n) :: (e, (⟨.ref 51, some dx, .fields #[.ref tt, .none, .none, .none, .bool false, .none], sl⟩ : Obj)) :: news := by
      rcases List.mem_cons.mp hq with rfl | hq
      · exact .head _
      · exact .tail _ (.tail _ hq)
    have Nq := N q hq'
    refine ⟨hideAll_get _ Nq.1 fun hm => ?_, Nq.2.2, fresh_of_stays K.stays Nq.2.2⟩
    rcases List.mem_cons.mp hm with z | hm
    · rcases List.mem_cons.mp hq with rfl | hq
      · exact hde z
      · exact hne q hq z
    · obtain ⟨env, he, hf⟩ := List.mem_filterMap.mp (hfs ▸ hm : q.1 ∈ (envOf name scope L a cd :: outer).filterMap (·.frame))
      rcases List.mem_cons.mp he with rfl | he
      · exact Nq.2.1 (Option.some.inj hf).symm
      · obtain ⟨o, ho, _⟩ := (K.frames.mem (List.mem_filterMap.mpr ⟨env, he, hf⟩)).2
        rw [Nq.2.2] at ho; cases ho
  refine leaves_first (dx := dx) K'.stack rfl (funFrames_hide K'.frames hin) hE.1 (fun b o q => of_hideAll _ q) (hideAll_none _ (.head _)) rfl rfl rfl fun h' x1 x2 => ?_
  exact hQ h' ⟨_, dx, es, n, ti, st, sg, hl, hat, x1⟩ ((Heap.UpToSlots.of_keeps F.keep).trans x2)

/-- it leaves a frame behind -/
theorem throw_next (K : Below A base outer g) (F : Fr g L G m) (hsm : G.UpToSlots s'.heap) (R : Thrown base G (envOf name scope L a cd :: outer) e i news s'.heap)
    (hQ : ∀ h', Thrown base g outer e i news h' → g.UpToSlots h' → Q () { s' with heap := h' }) :
    wpAny M (A.deeper (envOf name scope L a cd)) (leaving (envOf name scope L a cd) (.ref e)) Q E s' := by
  obtain ⟨B, dx, es, n, ti, hB, hBG, hl, hat, hfl⟩ := R
  refine leaves_next (Around.frames_deeper K.stack) rfl hfl fun h' x1 x2 => ?_
  exact hQ h' ⟨B, dx, es, n, ti, hB, fun b o q nm => hBG b o (F.keep b o q) (fun hm => by
    rcases kts_mem hm with z | z
    · rw [z, kts_self F] at q; cases q
    · exact nm z), fun q hq => ⟨(hl q hq).1, kts_none F.keep (hl q hq).2.1, (hl q hq).2.2⟩, hat, x1⟩ ((Heap.UpToSlots.of_keeps F.keep).trans (hsm.trans x2))
end

/-! ## the raise statement -/
def RaisableF (E : Value → Shared → Prop) (v : Value) (s₁ : Shared) : Prop :=
  ∃ (nm q : Str) (bs : List Value) (hdct : Bool) (sn : List Str) (sub : List Value) (ab : Bool) (col : Option Bool) (dd : Option Addr) (k0 k1 k2 k3 k5 : Option Value) (e : Addr) (od : Option Addr) (tt : Addr) (sl : Array (Option Value)),
    v = .ref e ∧ s₁.heap.get? 51 = some (excClassObj nm q 51 50 bs bmX hdct sn sub ab col dd k0 k1 k2 k3 k5 "Exception.__new__") ∧
    s₁.heap.get? e = some ⟨.ref 51, od, .fields #[.ref tt, .none, .none, .none, .bool false, .none], sl⟩ ∧ E (.ref e) s₁

theorem raise_stmt {M : Model} {A : Around} {E : Value → Shared → Prop} {env : Env} {s : Shared} {x : Sem Value} {Q : Flow → Shared → Prop} (hh : A.handled = none) (h : wpAny M A x (RaisableF E) E s) : wpAny M A (raiseStmt env (some x) none) Q E s := by
  have hcB : (Value.ref 51 :: bmX).contains (.type "BaseException") = true := rfl
  unfold raiseStmt
  refine wpAny_bind (wpAny_mono h (fun v s₁ h₁ => ?_) fun _ _ x => x)
  obtain ⟨nm, q, bs, hdct, sn, sub, ab, col, dd, k0, k1, k2, k3, k5, e, od, tt, sl, rfl, hC, he, hE⟩ := h₁
  obtain ⟨hp, g, d, tk, os⟩ := s₁
  repeat (first | with_reducible refine wpAny_loadPart_at he ?_ | with_reducible refine wpAny_loadPart_at hC ?_ | (with_reducible refine wpAny_isSubtype_exc hC ?_; rw [hcB]) | wp_step)
  exact wpAny_raiseNew_none hh hE

theorem raisable_of {w : World} {E : Value → Shared → Prop} {s₁ : Shared} {h₀ : Heap} {L e dx tt : Addr} {m : Str → Option Value} {od : Obj} {sl : Array (Option Value)} {news : Led} (F : Fr h₀ L s₁.heap m) (X : (Mine.hd.heap_1 w.params).In h₀)
    (N : News h₀ L s₁.heap ((dx, od) :: (e, ⟨.ref 51, some dx, .fields #[.ref tt, .none, .none, .none, .bool false, .none], sl⟩) :: news)) (hE : E (.ref e) s₁) : RaisableF E (.ref e) s₁ := by
  obtain ⟨nm, q, bs, hdct, sn, sub, ab, col, dd, k0, k1, k2, k3, k5, hl⟩ := obj51 w
  exact ⟨nm, q, bs, hdct, sn, sub, ab, col, dd, k0, k1, k2, k3, k5, e, some dx, tt, sl, rfl, X.keeps F.keep _ _ hl, (N _ (.tail _ (.head _))).1, hE⟩

theorem raise_fault {M : Model} {A : Around} {E : Value → Shared → Prop} {env : Env} {s : Shared} {x : Expr} {pos : Pos} {Q : Flow → Shared → Prop} (hh : A.handled = none) (h : wpAny M A (eval x env) (RaisableF E) E s) :
    wpAny M A (exec (.Raise (some x) none pos) env) Q E s := by
  show wpAny M A (do standAt pos; raiseStmt env (some (do let v ← eval x env; standAt pos; pure v)) none) Q E s
  refine wpAny_bind (wpAny_standAt (raise_stmt hh ?_))
  exact wpAny_bind (wpAny_mono h (fun v s₁ h₁ => wpAny_bind (wpAny_standAt (wpAny_pure h₁))) fun _ _ x => x)
end Mine

end

theorem Mine.top_off_X7 : True := by
  w_top off
  trivial

section
open PySem PySem.W PyProof.Rows
namespace Mine

def powerFrom (x : Str) (i b : Int) : Option (Str × Int × Int) :=
  if runOf x b DIGITS = b then some (Str.ofString "", 0, i) else
  if 1000 < runOf x b DIGITS - b then none else
  if (Txt.item x (i + 1) == Str.ofString "-") = true then some (Txt.item x i, -val (Txt.slice x (some b) (some (runOf x b DIGITS))), runOf x b DIGITS)
  else some (Txt.item x i, val (Txt.slice x (some b) (some (runOf x b DIGITS))), runOf x b DIGITS)
def powerAt (x : Str) (i : Int) : Option (Str × Int × Int) :=
  if (x.length : Int) ≤ i then some (Str.ofString "", 0, i) else
  if (Builtin.Str.occurrences (Str.ofString "ED") (Txt.item x i) 0 (Str.ofString "ED").length 1).isEmpty = true then some (Str.ofString "", 0, i) else
  if i + 1 < (x.length : Int) then
    (if (Builtin.Str.occurrences (Str.ofString "+-") (Txt.item x (i + 1)) 0 (Str.ofString "+-").length 1).isEmpty = true then powerFrom x i (i + 1) else powerFrom x i (i + 1 + 1))
  else powerFrom x i (i + 1)
abbrev OutP (P : Option (Str × Int × Int)) : Led → Led → Value → Prop := fun tl _ r =>
  ∃ D n l t1 p t2 e t3, tl = [(D, ({ cls := .type "tuple", data := .seq #[.str l t1, .int p t2, .int e t3] n } : Obj))] ∧ r = .ref D ∧ P = some (l, p, e)
theorem out_p {P : Option (Str × Int × Int)} {D : Addr} {n : Nat} {l : Str} {p e : Int} {t1 t2 t3 : Tok} {news : Led} (h : P = some (l, p, e)) :
    OutP P [(D, ({ cls := .type "tuple", data := .seq #[.str l t1, .int p t2, .int e t3] n } : Obj))] news (.ref D) := ⟨_, _, _, _, _, _, _, _, rfl, rfl, h⟩
set_option maxRecDepth 100000 in
set_option maxHeartbeats 8000000 in
theorem power_at_says (x : Str) (i : Int) (t1 t2 : Tok) (hp : 0 ≤ i ∧ i ≤ x.length ∧ x.length ≤ 4000) : Says 5 83 [.str x t1, .int i t2] (fun _ _ => True) (OutP (powerAt x i)) (fun at' => at' = i ∧ powerAt x i = none) := by
  have kk : (PySem.Challenge.rw_pf0117_01 = PySem.Challenge.rw_pf0117_01 ∧ Mine.hd.heap_1 = Mine.hd.heap_1) → True := by
    k_fill
    intro _; trivial
  clear kk
  unfold Says
  intro w mean mg mb dp un gd cn cs a ccd cl outer A₀ base h₀ L m news s Q E B F X N T hk hpre hdp hun hret hbad
  obtain ⟨h0, h1, h2⟩ := hp
  refine wpAny_call ?_
  k_dflt cell_enter
  k_with_none
  k_with "call ref cons nil" => first | ktr_call (run_of_says _ _ _ _ _ _ ?kp) 0 | (k_dflt (refine' fault_new ?k1 ?k2 ?k3 ?k4 ?k5 ?kK ?kd ?ku ?_); (case k1 => k_asm); (case k2 => k_asm); (case k3 => k_asm); (case k4 => k_asm); (case k5 => k_asm); (case kK => first | exact rfl | assumption); (case kd => ktr_room); (case ku => ktr_units); intro e9 dx9 tt9 ti9 es9 n9 h9 tk9 F9 N9 ne9 de9 at9; refine raisable_of (by assumption) (by assumption) N9 ?_; (try k_unfold); (try dsimp only); refine throw_first (by assumption) (by assumption) N9 ne9 de9 at9 ?_; intro h9 R9 U9; (try dsimp only); refine hbad _ _ _ _ _ ?_ (by assumption) U9 (Thrown.less R9 (by intro p hp; repeat (first | exact hp | apply List.Mem.tail))))
  k_with "exec Raise some none" => (refine raise_fault rfl ?_)
  k_with "call type:int" => (refine call_figures ?kN (figs_run ?ka h2 ?kc).all (figs_run ?ka h2 ?kc).ne (Nat.le_trans (figs_run ?ka h2 ?kc).len (by decide)) ?_; (case kN => exact (Heap.NoDigits.keeps (Top.nodigits (by assumption)) (Fr.keep (by assumption)))); (case ka => omega); (case kc => assumption); change wpAny _ _ _ _ _ _)
  k_with "unfold" => first | unfold powerAt | unfold powerFrom
  k_steps
  all_goals (try dsimp only at *)
  all_goals first | (ktr_unf; rfl) | (refine hret _ [_] _ _ (by assumption) (by assumption) (out_p ?_); ktr_unf; rfl) | exact absurd (runOf_end (by assumption)) (by assumption)
end Mine

end

theorem Mine.top_off_T4 : True := by
  w_top off
  trivial

section
open PySem PySem.W PyProof.Rows
namespace Mine
local macro_rules | `(tactic| ktr_call $x:term (1, $b:term)) => `(tactic| (k_dflt (refine' says_use $x ?k1 ?k2 ?k3 ?k4 ?k5 ?kK ?kq ?kd ?ku ?kb ?_); (case k1 => k_asm); (case k2 => k_asm); (case k3 => k_asm); (case k4 => k_asm); (case k5 => k_asm); (case kK => first | exact rfl | assumption); (try (case kp => ((repeat' (refine And.intro ?_ ?_)) <;> first | assumption | omega | k_extra "size"))); (case kq => first | trivial | assumption); (case kd => ktr_room); (case ku => ktr_units); (case' kb => (intro at9 e9 h9 tk9 G9 bad9 F9 U9 R9; (try k_unfold); (try dsimp only); refine throw_next (by assumption) F9 U9 R9 ?_; intro h9 R9 U9; (try dsimp only); refine $b _ _ _ _ _ ?_ (by assumption) U9 (Thrown.less R9 (by intro p hp; repeat (first | exact hp | apply List.Mem.tail))))); rotate_left; (intro r9 tl9 h9 tk9 F9 N9 o9; (obtain ⟨D9, n9, l9, u1, p9, u2, e9, u3, f8, f9, f7⟩ := o9); subst f8; subst f9; simp only [List.cons_append, List.nil_append] at N9; (try k_sweep); (try dsimp only); (try k_fold)); rotate_right))

local macro_rules | `(tactic| walk_at "eval BoolOp") => `(tactic| (k_here; (fail_if_success (with_reducible show wpAny _ _ _ (Back _ _ _ _ _ _) _ _)); k_extra "cut9"))

def numTail (i : Int) (ds fr l : Str) (p e : Int) : Except Int (Dat × Int) :=
  if (l == Str.ofString "D") = true then .ok (.tuple [.str (Str.ofString "DBLE"), .tuple [.int (val (ds ++ fr)), .int p], .int i], e)
  else .ok (.tuple [.str (Str.ofString "REAL"), .tuple [.int (val (ds ++ fr)), .int p], .int i], e)
def numNo (i : Int) (ds l : Str) (p e : Int) : Except Int (Dat × Int) :=
  if 1000 < e - i then .error i else
  if (l == Str.ofString "") = true then .ok (.tuple [.str (Str.ofString "INT"), .int (val ds), .int i], e) else numTail i ds (Str.ofString "") l (p - ((0 : Nat) : Int)) e
def numPt (i : Int) (ds fr l : Str) (p e : Int) : Except Int (Dat × Int) := if 1000 < e - i then .error i else numTail i ds fr l (p - (fr.length : Int)) e
def numNoAt (x : Str) (i e0 : Int) (ds : Str) : Except Int (Dat × Int) := match powerAt x e0 with
  | none => .error e0
  | some (l, p, e) => numNo i ds l p e
def numPtAt (x : Str) (i e1 : Int) (ds fr : Str) : Except Int (Dat × Int) := match powerAt x e1 with
  | none => .error e1
  | some (l, p, e) => numPt i ds fr l p e
/-- a point stands behind the first figures, and begins no word -/
def hasPt (x : Str) (i : Int) : Bool :=
  if runOf x i DIGITS < x.length then (if (Txt.item x (runOf x i DIGITS) == Str.ofString ".") = true then (dottedAt x (runOf x i DIGITS) == Str.ofString "") else false) else false
def numberAt (x : Str) (i : Int) : Except Int (Dat × Int) :=
  if hasPt x i = true then
    numPtAt x i (runOf x (runOf x i DIGITS + 1) DIGITS) (Txt.slice x (some i) (some (runOf x i DIGITS))) (Txt.slice x (some (runOf x i DIGITS + 1)) (some (runOf x (runOf x i DIGITS + 1) DIGITS)))
  else numNoAt x i (runOf x i DIGITS) (Txt.slice x (some i) (some (runOf x i DIGITS)))
theorem pt1 {x : Str} {i : Int} (h : ¬ runOf x i DIGITS < x.length) : Value.bool (decide (runOf x i DIGITS < x.length)) = Value.bool (hasPt x i) := by unfold hasPt; rw [if_neg h, decide_eq_false h]
theorem pt2 {x : Str} {i : Int} (h1 : runOf x i DIGITS < x.length) (h2 : ¬ (Txt.item x (runOf x i DIGITS) == Str.ofString ".") = true) : Value.bool (Txt.item x (runOf x i DIGITS) == Str.ofString ".") = Value.bool (hasPt x i) := by unfold hasPt; rw [if_pos h1, if_neg h2, eq_false_of_ne_true h2]
theorem pt3 {x : Str} {i : Int} (h1 : runOf x i DIGITS < x.length) (h2 : (Txt.item x (runOf x i DIGITS) == Str.ofString ".") = true) : Value.bool (dottedAt x (runOf x i DIGITS) == Str.ofString "") = Value.bool (hasPt x i) := by unfold hasPt; rw [if_pos h1, if_pos h2]
theorem no_pt {x : Str} {i : Int} (h : ¬ ((Txt.item x (runOf x i DIGITS) == Str.ofString ".") = true ∧ (dottedAt x (runOf x i DIGITS) == Str.ofString "") = true)) : ¬ hasPt x i = true := fun e => by
  unfold hasPt at e
  split at e
  · split at e
    · exact h ⟨by assumption, e⟩
    · cases e
  · cases e
theorem is_pt {x : Str} {i : Int} (h1 : runOf x i DIGITS < x.length) (h2 : (Txt.item x (runOf x i DIGITS) == Str.ofString ".") = true) (h3 : (dottedAt x (runOf x i DIGITS) == Str.ofString "") = true) : hasPt x i = true := by
  unfold hasPt; rw [if_pos h1, if_pos h2]; exact h3
theorem pt_lt {x : Str} {i : Int} (e : hasPt x i = true) : runOf x i DIGITS < x.length := by
  unfold hasPt at e; split at e
  · assumption
  · cases e
theorem pt_le {x : Str} {i : Int} (e : hasPt x i = true) : runOf x i DIGITS + 1 ≤ x.length := pt_lt e
theorem pt_dot {x : Str} {i : Int} (e : hasPt x i = true) : (Txt.item x (runOf x i DIGITS) == Str.ofString ".") = true := by
  unfold hasPt at e; split at e
  · split at e
    · assumption
    · cases e
  · cases e
theorem numNoAt_some {x : Str} {i e0 : Int} {ds l : Str} {p e : Int} (h : powerAt x e0 = some (l, p, e)) : numNoAt x i e0 ds = numNo i ds l p e := by unfold numNoAt; rw [h]
theorem numPtAt_some {x : Str} {i e0 : Int} {ds fr l : Str} {p e : Int} (h : powerAt x e0 = some (l, p, e)) : numPtAt x i e0 ds fr = numPt i ds fr l p e := by unfold numPtAt; rw [h]
theorem numNoAt_none {x : Str} {i e0 a : Int} {ds : Str} (h : a = e0 ∧ powerAt x e0 = none) : numNoAt x i e0 ds = .error a := by unfold numNoAt; rw [h.2, h.1]
theorem numPtAt_none {x : Str} {i e0 a : Int} {ds fr : Str} (h : a = e0 ∧ powerAt x e0 = none) : numPtAt x i e0 ds fr = .error a := by unfold numPtAt; rw [h.2, h.1]
theorem outn3 {R : Except Int (Dat × Int)} {D T D9 : Addr} {n1 n2 : Nat} {te t1 t2 t3 : Tok} {k : Str} {v i e : Int} {o : Obj} {news : Led} (ho : o.cls = .type "tuple") (h : R = .ok (.tuple [.str k, .int v, .int i], e)) :
    OutN R [(D, ({ cls := .type "tuple", data := .seq #[.ref T, .int e te] n1 } : Obj)), (T, ({ cls := .type "tuple", data := .seq #[.str k t1, .int v t2, .int i t3] n2 } : Obj)), (D9, o)] news (.ref D) :=
  ⟨_, _, _, _, _, _, .head _, rfl, h, dat_tup3 (.tail _ (.head _)) (.str _ _) (.int _ _) (.int _ _), tups_cons rfl (tups_cons rfl (tups_cons ho tups_nil))⟩
theorem outn4 {R : Except Int (Dat × Int)} {D T D8 D9 : Addr} {n1 n2 n3 : Nat} {te t1 t3 t4 t5 : Tok} {k : Str} {v p i e : Int} {o : Obj} {news : Led} (ho : o.cls = .type "tuple") (h : R = .ok (.tuple [.str k, .tuple [.int v, .int p], .int i], e)) :
    OutN R [(D, ({ cls := .type "tuple", data := .seq #[.ref T, .int e te] n1 } : Obj)), (T, ({ cls := .type "tuple", data := .seq #[.str k t1, .ref D8, .int i t3] n2 } : Obj)), (D8, ({ cls := .type "tuple", data := .seq #[.int v t4, .int p t5] n3 } : Obj)), (D9, o)] news (.ref D) :=
  ⟨_, _, _, _, _, _, .head _, rfl, h, dat_tup3 (.tail _ (.head _)) (.str _ _) (dat_tup2 (.tail _ (.tail _ (.head _))) (.int _ _) (.int _ _)) (.int _ _), tups_cons rfl (tups_cons rfl (tups_cons rfl (tups_cons ho tups_nil)))⟩
/-- the figures of the number at i do not end in a nought -/
structure NumOk (x : Str) (i : Int) : Prop where
  run : runOf x i DIGITS ≠ i
  no : val (Txt.slice x (some i) (some (runOf x i DIGITS)) ++ Str.ofString "") % 10 ≠ 0
  pt : (Txt.item x (runOf x i DIGITS) == Str.ofString ".") = true → val (Txt.slice x (some i) (some (runOf x i DIGITS)) ++ Txt.slice x (some (runOf x i DIGITS + 1)) (some (runOf x (runOf x i DIGITS + 1) DIGITS))) % 10 ≠ 0
set_option maxRecDepth 100000 in
set_option maxHeartbeats 8000000 in
theorem number_at_says (x : Str) (i : Int) (t1 t2 : Tok) (hp : 0 ≤ i ∧ i < x.length ∧ x.length ≤ 4000 ∧ NumOk x i) : Says 6 90 [.str x t1, .int i t2] (fun _ _ => True) (OutN (numberAt x i)) (fun at' => numberAt x i = .error at') := by
  have kk : (PySem.Challenge.rw_pf0117_01 = PySem.Challenge.rw_pf0117_01 ∧ Mine.hd.heap_1 = Mine.hd.heap_1) → True := by
    k_fill
    intro _; trivial
  clear kk
  unfold Says
  intro w mean mg mb dp un gd cn cs a ccd cl outer A₀ base h₀ L m news s Q E B F X N T hk hpre hdp hun hret hbad
  obtain ⟨h0, h1, h2, h3⟩ := hp
  refine wpAny_call ?_
  k_dflt cell_enter
  k_with_none
  k_with "call ref cons nil" => first | ((with_reducible show wpAny _ _ (call (Value.ref 62) _) _ _ _); ktr_call (run_of_says _ _ _ _ _ _ ?kp) 0) | ((with_reducible show wpAny _ _ (call (Value.ref 69) _) _ _ _); ktr_call (dotted_at_says _ _ _ _ ?kp) 0) | ((with_reducible show wpAny _ _ (call (Value.ref 83) _) _ _ _); ktr_call (power_at_says _ _ _ _ ?kp) (1, hbad)) | ((with_reducible show wpAny _ _ (call (Value.ref 76) _) _ _ _); ktr_call (told_pair_says _ _ _ _ ?kp) 2) | ((with_reducible show wpAny _ _ (call (Value.ref 51) _) _ _ _); (k_dflt (refine' fault_new ?k1 ?k2 ?k3 ?k4 ?k5 ?kK ?kd ?ku ?_); (case k1 => k_asm); (case k2 => k_asm); (case k3 => k_asm); (case k4 => k_asm); (case k5 => k_asm); (case kK => first | exact rfl | assumption); (case kd => ktr_room); (case ku => ktr_units); intro e9 dx9 tt9 ti9 es9 n9 h9 tk9 F9 N9 ne9 de9 at9; refine raisable_of (by assumption) (by assumption) N9 ?_; (try k_unfold); (try dsimp only); refine throw_first (by assumption) (by assumption) N9 ne9 de9 at9 ?_; intro h9 R9 U9; (try dsimp only); refine hbad _ _ _ _ _ ?_ (by assumption) U9 (Thrown.less R9 (by intro p hp; repeat (first | exact hp | apply List.Mem.tail)))))
  k_with "cut9" => (k_dflt (refine' cut_to (fun v => v = Value.bool (hasPt x i)) ?cF ?cN ?ca ?cb; (case cF => k_asm); (case cN => k_asm); (case' cb => (intro v9 h9 tk9 p9 F9 N9; subst p9; (try k_sweep); (try dsimp only)))))
  k_with "size" => first | (with_reducible exact pt_le (by with_reducible assumption)) | exact figs_no h0 h2 h3.run | exact h3.no | exact figs_pt h0 (Int.le_of_lt h1) h2 h3.run (pt_lt (by with_reducible assumption)) | exact h3.pt (pt_dot (by with_reducible assumption))
  k_with "exec Raise some none" => (refine raise_fault rfl ?_)
  k_with "call type:int" => (refine call_figures ?kN (figs_run ?ka h2 ?kc).all (figs_run ?ka h2 ?kc).ne (Nat.le_trans (figs_run ?ka h2 ?kc).len (by decide)) ?_; (case kN => exact (Heap.NoDigits.keeps (Top.nodigits (by assumption)) (Fr.keep (by assumption)))); (case ka => omega); (case kc => exact h3.run); change wpAny _ _ _ _ _ _)
  k_with "unfold" => first | exact numNoAt_none (by assumption) | exact numPtAt_none (by assumption) | refine (numNoAt_some ‹powerAt _ _ = some _›).trans ?_ | refine (numPtAt_some ‹powerAt _ _ = some _›).trans ?_
  k_steps
  all_goals first
    | ((with_reducible show Back _ _ _ _ _ _ _ _); refine Back.intro (by assumption) (by assumption) ?_; first | exact pt1 (by assumption) | exact pt2 (by assumption) (by first | assumption | exact ne_of_false (by assumption)) | exact pt3 (by assumption) (by assumption))
    | ((with_reducible show numberAt _ _ = _); ktr_unf; first | done | rfl)
    | ((with_reducible rename News _ L _ _ => kN9); refine' hret _ [_, _, _] _ _ (by assumption) kN9 (outn3 rfl ?r1); (case r1 => (ktr_unf; first | done | rfl)))
    | ((with_reducible rename News _ L _ _ => kN9); refine' hret _ [_, _, _, _] _ _ (by assumption) kN9 (outn4 rfl ?r1); (case r1 => (ktr_unf; first | done | rfl)))
end Mine

end

theorem Mine.top_off_T5 : True := by
  w_top off
  trivial

section
open PySem PySem.W PyProof.Rows
namespace Mine

abbrev WORDS : Str := LETTERS ++ DIGITS
abbrev nameEnd (x : Str) (i : Int) : Int := runOf x i WORDS
theorem outn2 {R : Except Int (Dat × Int)} {D T : Addr} {n1 n2 : Nat} {te t1 t2 t3 : Tok} {k v : Str} {i e : Int} {news : Led} (h : R = .ok (.tuple [.str k, .str v, .int i], e)) :
    OutN R [(D, ({ cls := .type "tuple", data := .seq #[.ref T, .int e te] n1 } : Obj)), (T, ({ cls := .type "tuple", data := .seq #[.str k t1, .str v t2, .int i t3] n2 } : Obj))] news (.ref D) :=
  ⟨_, _, _, _, _, _, .head _, rfl, h, dat_tup3 (.tail _ (.head _)) (.str _ _) (.str _ _) (.int _ _), tups_cons rfl (tups_cons rfl tups_nil)⟩
set_option maxRecDepth 100000 in
set_option maxHeartbeats 8000000 in
theorem name_at_says (x : Str) (i : Int) (t1 t2 : Tok) (hp : 0 ≤ i ∧ i < x.length ∧ x.length ≤ 4000 ∧ runOf x i WORDS - i ≤ 6) : Says 2 104 [.str x t1, .int i t2] (fun _ _ => True) (OutN (.ok (.tuple [.str (Str.ofString "NAME"), .str (Txt.slice x (some i) (some (runOf x i WORDS))), .int i], runOf x i WORDS))) Never := by
  have kk : (PySem.Challenge.rw_pf0117_01 = PySem.Challenge.rw_pf0117_01 ∧ Mine.hd.heap_1 = Mine.hd.heap_1) → True := by
    k_fill
    intro _; trivial
  clear kk
  unfold Says
  intro w mean mg mb dp un gd cn cs a ccd cl outer A₀ base h₀ L m news s Q E B F X N T hk hpre hdp hun hret hbad
  obtain ⟨h0, h1, h2, h3⟩ := hp
  have h4 : runOf x i (Str.ofString "ABCDEFGHIJKLMNOPQRSTUVWXYZ" ++ Str.ofString "0123456789") - i ≤ 6 := h3
  refine wpAny_call ?_
  k_dflt cell_enter
  k_with_none
  k_with "call ref cons nil" => first | ((with_reducible show wpAny _ _ (call (Value.ref 62) _) _ _ _); ktr_call (run_of_says _ _ _ _ _ _ ?kp) 0)
  k_steps
  exact hret _ [_, _] _ _ (by assumption) (by assumption) (outn2 rfl)
end Mine

end

theorem Mine.top_off_T6 : True := by
  w_top off
  trivial

section
open PySem PySem.W PyProof.Rows
namespace Mine
local macro_rules | `(tactic| ktr_call $x:term (3, $b:term)) => `(tactic| (k_dflt (refine' says_use $x ?k1 ?k2 ?k3 ?k4 ?k5 ?kK ?kq ?kd ?ku ?kb ?_); (case k1 => k_asm); (case k2 => k_asm); (case k3 => k_asm); (case k4 => k_asm); (case k5 => k_asm); (case kK => first | exact rfl | assumption); (try (case kp => ((repeat' (refine And.intro ?_ ?_)) <;> first | assumption | omega | k_extra "size"))); (case kq => first | trivial | assumption); (case kd => ktr_room); (case ku => ktr_units); (case' kb => (intro at9 e9 h9 tk9 G9 bad9 F9 U9 R9; (try k_unfold); (try dsimp only); refine throw_next (by assumption) F9 U9 R9 ?_; intro h9 R9 U9; (try dsimp only); refine $b _ _ _ _ _ ?_ (by assumption) U9 (Thrown.less R9 (by intro p hp; repeat (first | exact hp | apply List.Mem.tail))))); rotate_left; (intro r9 tl9 h9 tk9 F9 N9 o9; (obtain ⟨D9, n9, T9, e9, u9, d9, m9, f9, f7, in9, tu9⟩ := o9); subst f9; (try k_sweep); (try dsimp only); (try k_fold)); rotate_right))

abbrev SIGNS : Str := Str.ofString "+-*/(),=:"
def opTok (x : Str) (i e : Int) : Except Int (Dat × Int) := .ok (.tuple [.str (Str.ofString "OP"), .str (Txt.slice x (some i) (some e)), .int i], e)
def tokenAt (x : Str) (i : Int) : Except Int (Dat × Int) :=
  if (Builtin.Str.occurrences LETTERS (Txt.item x i) 0 LETTERS.length 1).isEmpty = true then
    (if (Builtin.Str.occurrences DIGITS (Txt.item x i) 0 DIGITS.length 1).isEmpty = true then
      (if (Builtin.Str.occurrences (Str.ofString "*/") (Txt.item x i) 0 (Str.ofString "*/").length 1).isEmpty = true then opTok x i (i + 1) else
      if (Txt.slice x (some (i + 1)) (some (i + 1 + 1)) == Txt.item x i) = true then opTok x i (i + 1 + 1) else opTok x i (i + 1))
    else numberAt x i)
  else .ok (.tuple [.str (Str.ofString "NAME"), .str (Txt.slice x (some i) (some (runOf x i WORDS))), .int i], runOf x i WORDS)
/-- a token that is no dotted word and no quoted text stands at i, and it is well made -/
structure TokOk (x : Str) (i : Int) : Prop where
  name : (Builtin.Str.occurrences LETTERS (Txt.item x i) 0 LETTERS.length 1).isEmpty = false → runOf x i WORDS - i ≤ 6
  num : (Builtin.Str.occurrences DIGITS (Txt.item x i) 0 DIGITS.length 1).isEmpty = false → NumOk x i
  op : (Builtin.Str.occurrences LETTERS (Txt.item x i) 0 LETTERS.length 1).isEmpty = true → (Builtin.Str.occurrences DIGITS (Txt.item x i) 0 DIGITS.length 1).isEmpty = true →
    (Txt.item x i == Str.ofString ".") = false ∧ (Txt.item x i == Str.ofString "'") = false ∧ (Builtin.Str.occurrences SIGNS (Txt.item x i) 0 SIGNS.length 1).isEmpty = false
set_option maxRecDepth 100000 in
set_option maxHeartbeats 8000000 in
theorem token_at_says (x : Str) (i : Int) (t1 t2 : Tok) (hp : 0 ≤ i ∧ i < x.length ∧ x.length ≤ 4000 ∧ TokOk x i) : Says 7 118 [.str x t1, .int i t2] (fun _ _ => True) (OutN (tokenAt x i)) (fun at' => tokenAt x i = .error at') := by
  have kk : (PySem.Challenge.rw_pf0117_01 = PySem.Challenge.rw_pf0117_01 ∧ Mine.hd.heap_1 = Mine.hd.heap_1) → True := by
    k_fill
    intro _; trivial
  clear kk
  unfold Says
  intro w mean mg mb dp un gd cn cs a ccd cl outer A₀ base h₀ L m news s Q E B F X N T hk hpre hdp hun hret hbad
  obtain ⟨h0, h1, h2, h3⟩ := hp
  refine wpAny_call ?_
  k_dflt cell_enter
  k_with_none
  k_with "call ref cons nil" => first
    | ((with_reducible show wpAny _ _ (call (Value.ref 104) _) _ _ _); ktr_call (name_at_says _ _ _ _ ?kp) (3, hbad))
    | ((with_reducible show wpAny _ _ (call (Value.ref 90) _) _ _ _); ktr_call (number_at_says _ _ _ _ ?kp) (3, hbad))
    | ((with_reducible show wpAny _ _ (call (Value.ref 111) _) _ _ _); exact absurd (by assumption) (ne_of_false (h3.op (by assumption) (by assumption)).1))
    | ((with_reducible show wpAny _ _ (call (Value.ref 97) _) _ _ _); exact absurd (by assumption) (ne_of_false (h3.op (by assumption) (by assumption)).2.1))
    | ((with_reducible show wpAny _ _ (call (Value.ref 51) _) _ _ _); exact absurd (by assumption) (ne_of_false (h3.op (by assumption) (by assumption)).2.2))
  k_with "size" => first | exact h3.name (by assumption) | exact h3.num (by assumption)
  k_steps
  all_goals first
    | ((with_reducible show (fun at' => tokenAt x i = .error at') _); (show tokenAt _ _ = _); ktr_unf; assumption)
    | ((with_reducible rename News _ L _ _ => kN9); refine' hret _ [_, _] _ _ (by assumption) kN9 (outn2 ?r1); (case r1 => (ktr_unf; rfl)))
    | ((with_reducible rename News _ L _ _ => kN9); refine' hret _ _ _ _ (by assumption) kN9 ⟨_, _, _, _, _, _, ?r2, rfl, ?r1, ?r3, ?r4⟩; (case r2 => assumption); (case r3 => assumption); (case r4 => assumption); (case r1 => (ktr_unf; assumption)))
    | (exfalso; assumption)
end Mine

end

theorem Mine.top_off_T7 : True := by
  w_top off
  trivial

section
open PySem PySem.W PyProof.Rows
namespace Mine

/-- the tokens of x from i on: all of them, or those ahead of a fault -/
inductive Trace (x : Str) : Int → List Dat → Option Int → Prop
  | stop {i : Int} (h : ¬ i < (x.length : Int)) : Trace x i [] none
  | tok {i e : Int} {d : Dat} {ds : List Dat} {r : Option Int} (h : i < (x.length : Int)) (ok : TokOk x i) (hd : tokenAt x i = .ok (d, e)) (hlt : i < e) (rest : Trace x e ds r) : Trace x i (d :: ds) r
  | bad {i a : Int} (h : i < (x.length : Int)) (ok : TokOk x i) (hd : tokenAt x i = .error a) : Trace x i [] (some a)

theorem led_front {h₀ h : Heap} {L : Addr} {tl rest : Led} {q : Addr × Obj} (N : News h₀ L h (tl ++ (q :: rest))) : News h₀ L h (q :: (tl ++ rest)) := fun p hp => N p (by
  rcases List.mem_cons.mp hp with rfl | hp
  · exact List.mem_append_right _ (.head _)
  · rcases List.mem_append.mp hp with hp | hp
    · exact List.mem_append_left _ hp
    · exact List.mem_append_right _ (.tail _ hp))
theorem mem_front {tl rest : Led} {p q : Addr × Obj} (m : p ∈ tl) : p ∈ q :: (tl ++ rest) := .tail _ (List.mem_append_left _ m)
theorem led_front2 {h₀ h : Heap} {L : Addr} {tl rest : Led} {p q : Addr × Obj} (N : News h₀ L h (tl ++ (q :: rest))) (m : p ∈ tl) : News h₀ L h (q :: (tl ++ rest)) ∧ p ∈ q :: (tl ++ rest) := ⟨led_front N, mem_front m⟩
theorem tup_ne {h₀ h : Heap} {L lo : Addr} {rest : Led} {its : Array Value} {n : Nat} {p : Addr × Obj} (N : News h₀ L h ((lo, listOf its n) :: rest)) (hp : p ∈ rest) (hc : p.2.cls = .type "tuple") : p.1 ≠ lo := by
  intro e
  have a := (N p (.tail _ hp)).1
  rw [e, (N _ (.head _)).1] at a
  rw [← Option.some.inj a] at hc
  revert hc
  show ¬ (Value.type "list" = Value.type "tuple")
  intro q
  injection q with q
  exact absurd q (by decide)
theorem map3 {m : Str → Option Value} {a b c : Str} {va vb vc : Option Value} (ha : m a = va) (hb : m b = vb) (hc : m c = vc) : m = fun y => if y = a then va else if y = b then vb else if y = c then vc else m y := by
  funext y
  by_cases h1 : y = a
  · rw [if_pos h1, h1, ha]
  · rw [if_neg h1]
    by_cases h2 : y = b
    · rw [if_pos h2, h2, hb]
    · rw [if_neg h2]
      by_cases h3 : y = c
      · rw [if_pos h3, h3, hc]
      · rw [if_neg h3]
/-- what holds between the turns of tokens_of -/
def TokJ (x : Str) (t1 : Tok) (r : Option Int) (ds : List Dat) (news : Led) (n : Nat) (m : Str → Option Value) (nx : Led) : Prop :=
  ∃ (i : Int) (ti : Tok) (lo : Addr) (u : Str → Option Value) (ds₁ ds₂ : List Dat) (vs : List Value) (nn : Nat) (tl : Led), n = (x.length - i).toNat ∧
    m = (fun y => if y = Str.ofString "at" then some (.int i ti) else if y = Str.ofString "out" then some (.ref lo) else if y = Str.ofString "squeezed" then some (.str x t1) else u y) ∧
    nx = (lo, listOf vs.toArray nn) :: (tl ++ news) ∧ Trace x i ds₂ r ∧ ds = ds₁ ++ ds₂ ∧ DatAll tl vs ds₁ ∧ Tups tl ∧ (∀ p ∈ news, p.1 < lo) ∧ 0 ≤ i ∧ ds₁.length ≤ i.toNat
abbrev OutT (r : Option Int) (ds : List Dat) : Led → Led → Value → Prop := fun tl _ v => r = none ∧ DatIn tl v (.list ds)
theorem tups_app {l l' : Led} (h : Tups l) (h' : Tups l') : Tups (l ++ l') := fun p hp => (List.mem_append.mp hp).elim (h p) (h' p)
theorem tok_upd {h₀ h : Heap} {L lo : Addr} {tl9 tl news : Led} {its : Array Value} {n : Nat} {o' : Obj} (N : News h₀ L h ((lo, listOf its n) :: (tl9 ++ (tl ++ news)))) (h9 : Tups tl9) (ht : Tups tl) (hlo : ∀ p ∈ news, p.1 < lo) :
    Upd lo (listOf its n) o' ((lo, listOf its n) :: (tl9 ++ (tl ++ news))) ((lo, o') :: (tl9 ++ (tl ++ news))) := .head (by
  intro p hp
  rcases List.mem_append.mp hp with h | h
  · exact tup_ne N hp (h9 p h)
  · rcases List.mem_append.mp h with h | h
    · exact tup_ne N hp (ht p h)
    · exact Nat.ne_of_lt (hlo p h))
theorem tok_size {x : Str} {i : Int} {tl : Led} {vs : List Value} {ds₁ : List Dat} (hv : DatAll tl vs ds₁) (hl : ds₁.length ≤ i.toNat) (hx : x.length ≤ 4000) (hi : i < (x.length : Int)) : vs.toArray.size ≤ sizeLine := by
  rw [List.size_toArray, hv.length]
  have : (4000 : Nat) ≤ sizeLine := by decide
  omega
theorem tok_next {x : Str} {t1 : Tok} {r : Option Int} {ds ds₁ ds₂ : List Dat} {news tl tl9 : Led} {i e : Int} {te : Tok} {d : Dat} {lo T9 : Addr} {vs : List Value} {nn : Nat} {m : Str → Option Value}
    (hm : m = fun y => if y = Str.ofString "at" then some (.int e te) else if y = Str.ofString "out" then some (.ref lo) else if y = Str.ofString "squeezed" then some (.str x t1) else m y)
    (hd : ds = ds₁ ++ d :: ds₂) (rest : Trace x e ds₂ r) (hvs : DatAll tl vs ds₁) (htl : Tups tl) (hlo : ∀ p ∈ news, p.1 < lo) (h0 : 0 ≤ i) (hlt : i < e) (hl : ds₁.length ≤ i.toNat) (in9 : DatIn tl9 (.ref T9) d) (tu9 : Tups tl9) :
    TokJ x t1 r ds news (x.length - e).toNat m ((lo, listOf (vs.toArray.push (.ref T9)) (nn + 1)) :: (tl9 ++ (tl ++ news))) := by
  refine ⟨e, te, lo, m, ds₁ ++ [d], ds₂, vs ++ [.ref T9], nn + 1, tl9 ++ tl, rfl, hm, ?_, rest, ?_, ?_, tups_app tu9 htl, hlo, by omega, ?_⟩
  · rw [List.push_toArray, List.append_assoc]
  · rw [hd, List.append_assoc]; rfl
  · exact DatAll.append (DatAll.mono (fun p hp => List.mem_append_right _ hp) hvs) (DatAll.one (DatIn.mono (fun p hp => List.mem_append_left _ hp) in9))
  · rw [List.length_append, List.length_singleton]; omega
theorem ok_inj {d d' : Dat} {e e' : Int} {R : Except Int (Dat × Int)} (h : R = .ok (d, e)) (h' : R = .ok (d', e')) : d = d' ∧ e = e' := by
  rw [h] at h'; injection h' with h'; injection h' with a b; exact ⟨a, b⟩
theorem err_inj {a a' : Int} {R : Except Int (Dat × Int)} (h : R = .error a) (h' : R = .error a') : a = a' := by
  rw [h] at h'; injection h' with h'
theorem ok_err {d : Dat} {e a : Int} {R : Except Int (Dat × Int)} (h : R = .ok (d, e)) (h' : R = .error a) : False := by
  rw [h] at h'; injection h'
theorem tok_out {ds ds₁ : List Dat} {tl news : Led} {lo : Addr} {vs : List Value} {nn : Nat} (hds : ds = ds₁ ++ []) (hvs : DatAll tl vs ds₁) : OutT none ds ((lo, listOf vs.toArray nn) :: tl) news (.ref lo) := by
  rw [List.append_nil] at hds
  subst hds
  exact ⟨rfl, .list (.head _) (DatAll.mono (fun p hp => .tail _ hp) hvs)⟩
local macro_rules | `(tactic| ktr_call $x:term (4, $b:term)) => `(tactic| (k_dflt (refine' says_use $x ?k1 ?k2 ?k3 ?k4 ?k5 ?kK ?kq ?kd ?ku ?kb ?_); (case k1 => k_asm); (case k2 => k_asm); (case k3 => k_asm); (case k4 => k_asm); (case k5 => k_asm); (case kK => first | exact rfl | assumption); (try (case kp => ((repeat' (refine And.intro ?_ ?_)) <;> first | assumption | omega | k_extra "size"))); (case kq => first | trivial | assumption); (case kd => ktr_room); (case ku => ktr_units); (case' kb => (intro at9 e9 h9 tk9 G9 bad9 F9 U9 R9; (try k_unfold); (try dsimp only); refine throw_next (by assumption) F9 U9 R9 ?_; intro h9 R9 U9; (try dsimp only); refine $b _ _ _ _ _ ?_ (by assumption) U9 (Thrown.less R9 (by intro p hp; repeat (first | exact hp | apply List.Mem.tail | apply List.mem_append_right))))); rotate_left; (intro r9 tl9 h9 tk9 F9 N9 o9; (obtain ⟨D9, n9, T9, e9, u9, d9, m9, f9, f7, in9, tu9⟩ := o9); subst f9; (obtain ⟨N9, m9⟩ := led_front2 N9 m9); (try k_sweep); (try dsimp only); (try k_fold)); rotate_right))
set_option maxRecDepth 100000 in
set_option maxHeartbeats 8000000 in
theorem tokens_of_says (x : Str) (ds : List Dat) (r : Option Int) (t1 : Tok) (hp : Trace x 0 ds r ∧ x.length ≤ 4000) : Says 8 125 [.str x t1] (fun _ _ => True) (OutT r ds) (fun at' => r = some at') := by
  have kk : (PySem.Challenge.rw_pf0117_01 = PySem.Challenge.rw_pf0117_01 ∧ Mine.hd.heap_1 = Mine.hd.heap_1) → True := by
    k_fill
    intro _; trivial
  clear kk
  unfold Says
  intro w mean mg mb dp un gd cn cs a ccd cl outer A₀ base h₀ L m news s Q E B F X N T hk hpre hdp hun hret hbad
  obtain ⟨htr, h2⟩ := hp
  refine wpAny_call ?_
  k_dflt cell_enter
  k_with_none
  k_with "call ref cons nil" => first
    | ((with_reducible show wpAny _ _ (call (Value.ref 118) _) _ _ _); ktr_call (token_at_says _ _ _ _ ?kp) (4, hbad))
  k_with "call builtin:list.append" => ((with_reducible rename tokenAt _ _ = Except.ok _ => kf7); first | exact (ok_err kf7 hd).elim | ((obtain ⟨rfl, rfl⟩ := ok_inj hd kf7); (with_reducible rename News _ _ _ _ => kN9); refine append_K (by assumption) kN9 (tok_upd kN9 (by assumption) htl (by assumption)) ?_ (tok_size hvs hdl h2 h1); clear kN9; intro h' F' N'; (try k_sweep)))
  k_with "exec While Compare cons nil" => ((rename Fr _ _ _ _ => lF'); (rename News _ _ _ _ => lN'); (with_unfolding_all refine' While_inv2 (TokJ x t1 r ds news) lF' lN' ?kJ ?kT ?kE); (case kE => passes_own); (case kJ => exact ⟨0, _, _, _, [], ds, [], 0, [], rfl, map3 (by with_unfolding_all rfl) (by with_unfolding_all rfl) (by with_unfolding_all rfl), rfl, htr, rfl, .nil, tups_nil, by assumption, Int.le_refl _, Nat.le_refl _⟩); clear lF' lN'; intro n m₁ nx h tk F₁ N₁ hJ; (obtain ⟨i, ti, lo, u, ds₁, ds₂, vs, nn, tl, rfl, rfl, rfl, htr', hds, hvs, htl, hlo, hi, hdl⟩ := hJ); (rcases htr' with h1 | ⟨h1, ok, hd, hlt, rest⟩ | ⟨h1, ok, hd⟩) <;> (try k_fold))
  k_steps
  · exact hret _ (_ :: tl) _ _ (by assumption) (by assumption) (tok_out hds hvs)
  · exact (ok_err hd (by assumption)).elim
  · (with_reducible rename Fr _ _ _ _ => kF9)
    (with_reducible rename News _ _ _ _ => kN9)
    refine' ⟨_, _, _, _, _, rfl, kF9, kN9, ?km, tok_next ?kh hds rest hvs htl hlo hi hlt hdl (by assumption) (by assumption)⟩
    (case kh => exact map3 (by with_unfolding_all rfl) (by with_unfolding_all rfl) (by with_unfolding_all rfl))
    (case km => omega)
  · exact congrArg some (err_inj hd (by assumption))
end Mine

end

theorem Mine.top_off_T8 : True := by
  w_top off
  trivial

section
open PySem PySem.W PySem.Calls PyProof.Rows
set_option maxRecDepth 100000
namespace Mine
theorem fillL1 : True := by
  have kk : (PySem.Challenge.rw_pf0117_01 = PySem.Challenge.rw_pf0117_01 ∧ Mine.hd.heap_1 = Mine.hd.heap_1) → True := by
    k_fill
    intro _; trivial
  trivial

section
variable {prog : Program} {w : World} {A A₀ : Around} {s s' : Shared} {base h₀ g G : Heap} {outer : List Env} {L a e : Addr} {m : Str → Option Value} {name : Str} {scope : Scope} {cd : Value} {news : Led} {i : Int}
  {p : Program} {loose : List Str} {mean : ExcName → Option Value} {mg mb : Str → Option Value} {R : Result → Shared → Prop}

/-- what a call from the law's own frame starts from: all that stood, but for the ledger -/
theorem under_here {env : Env} (B : Below A₀ base [] h₀) (F : Fr h₀ L s.heap m) (N : News h₀ L s.heap news) (hf : env.frame = some L) (hk : env.scope.kind = .function) (hA : A.frames = some [env]) :
    ∃ g oL es ep, Fr h₀ L g m ∧ Below A base [env] g ∧ g.get? L = some oL ∧ oL.data = .dict es ep ∧ (∀ (sl : Array (Option Value)) h', h'.get? L = some { oL with slots := sl } → Heap.Ns h' L m) ∧
      (∀ b o, g.get? b = some o → s.heap.get? b = some o) ∧ g.objs.size = s.heap.objs.size ∧ ∀ q ∈ news, g.get? q.1 = none := by
  have off : ∀ b, (∀ q ∈ news, q.1 ≠ b) → b ∉ news.map (·.1) := fun b h hm => by
    obtain ⟨q, hq, e⟩ := List.mem_map.mp hm
    exact h q hq e
  obtain ⟨oL, es, ep, hL, hd, hv, hw⟩ := F.ns
  have gL := hideAll_get (news.map (·.1)) hL (off L fun q hq => (N q hq).2.1)
  have st : h₀.StaysIn (hideAll s.heap (news.map (·.1))) := fun b o hb => hideAll_get _ (F.keep b o hb) (off b fun q hq z => by
    have := (N q hq).2.2
    rw [z, hb] at this
    cases this)
  have Fg : Fr h₀ L (hideAll s.heap (news.map (·.1))) m := ⟨⟨oL, es, ep, gL, hd, hv, hw⟩, st, F.above⟩
  have Bg := pushX B Fg hf hk
  exact ⟨_, oL, es, ep, Fg, ⟨hA, Bg.stays, Bg.frames⟩, gL, hd, fun sl h' q => ⟨_, es, ep, q, hd, hv, hw⟩, fun b o q => of_hideAll _ q, hideAll_size _ _, fun q hq => hideAll_none _ (List.mem_map_of_mem hq)⟩

/-- a def is entered from the law's own frame; it may catch: the frame's own slots may turn -/
theorem enter_here {env : Env} {K : Frag} {f : Addr} {args : Args} {binds : List (Str × Value)} {qual : Str} {params : Arguments} {body : List Stmt} {dV kV doc pm cdv ct oc : Value} {an od : Option Addr} {osl : Array (Option Value)}
    (B : Below A₀ base [] h₀) (F : Fr h₀ L s.heap m) (X₀ : K.In h₀) (N : News h₀ L s.heap news) (T : Top p loose mean mg mb h₀) (hf : env.frame = some L) (hk : env.scope.kind = .function) (hA : A.frames = some [env])
    (ho : K.lookup f = some ⟨oc, od, .func (fnOf name qual params body scope dV kV doc pm an cdv ct), osl⟩) (hcd : codeIn K cdv qual = true) (hroom : A.depth < recursionLimit)
    (hbind : BindsTo s (fnOf name qual params body scope dV kV doc pm an cdv ct) args binds) (hloc : ∀ y ∈ binds, scope.names.lookup y.1 = some .local)
    (h : ∀ g L' h₁, Fr h₀ L g m → Fr g L' h₁ (fun y => binds.reverse.lookup y) → News g L' h₁ news → Below A base [env] g → K.In g → Top p loose mean mg mb g →
      wpAny (model prog w) (A.deeper (envOf qual scope L' f cdv)) (execs body (envOf qual scope L' f cdv))
        (fun fl s' => LeaveS0 ([env].filterMap (·.frame)) h₀ L m g R (match fl with | .ret v => v | _ => .none) s')
        (fun e s' => wpAny (model prog w) (A.deeper (envOf qual scope L' f cdv)) (leaving (envOf qual scope L' f cdv) e) (fun _ s'' => R (.error e) s'') (fun e' s'' => R (.error e') s'') s')
        { s with heap := h₁, toks := s.toks + binds.length })
    (hco : scope.isCoroutine = false) (hgen : scope.isGenerator = false) (hkd : scope.kind = .function) (hcell : ∀ x ∈ scope.names, x.2 ≠ .cell) : codeAny (model prog w) A (.call (.ref f) args) R s := by
  obtain ⟨g, oL, es, ep, Fg, Bg, gL, _, hns, up, sz, off⟩ := under_here B F N hf hk hA
  have hin : [env].filterMap (·.frame) = [L] := by simp [hf]
  refine codeAny_call_def (fd := fnOf name qual params body scope dV kV doc pm an cdv ct) (body := body) (binds := binds) hroom (X₀.keeps F.keep _ _ ho) rfl (T.nolimit.keeps F.keep) (codeRec_of (X₀.keeps F.keep) hcd) rfl hbind hcell hloc (fun h₁ own keep => ?_) hco hgen hkd
  have F₁ : Fr g s.heap.objs.size h₁ (fun y => binds.reverse.lookup y) := ⟨own, fun b o q => keep b o (up b o q), Nat.le_of_eq sz⟩
  have N₁ : News g s.heap.objs.size h₁ news := fun q hq => ⟨keep _ _ (N q hq).1, Nat.ne_of_lt (Heap.lt_size (N q hq).1), off q hq⟩
  refine wpAny_mono (h g _ h₁ Fg F₁ N₁ Bg (X₀.keeps Fg.keep) (T.keeps Fg.keep)) (fun fl s' back => ?_) fun _ _ y => y
  obtain ⟨g', L', m', news', T', F', N', k⟩ := back
  rw [hin] at T'
  have nL := kts_self F
  obtain ⟨sl, gL'⟩ := T'.up gL
  have same : ∀ b o, h₀.get? b = some o → g'.get? b = some o := fun b o q => T'.other b o (Fg.keep b o q) (fun z => by
    rw [List.mem_singleton.mp z, nL] at q
    cases q)
  refine k ⟨hns sl _ (F'.keep _ _ gL'), fun b o q => F'.keep b o (same b o q), F.above⟩ fun q hq => ⟨(N' q hq).1, fun z => ?_, kts_none same (N' q hq).2.2⟩
  have := (N' q hq).2.2
  rw [z, gL'] at this
  cases this

/-- a LexFault lands in the frame that looks for it by its class's name, and binds it -/
theorem lands_fault {E : Value → Shared → Prop} {Q : Flow → Shared → Prop} {n x : Str} {b₀ : Stmt} {suite : List Stmt} {pos np : Pos} {rest : List ExceptHandler}
    (R : Thrown base G (envOf name scope L a cd :: outer) e i news s'.heap) (F : Fr g L G m) (K : Below A₀ base outer g) (hsm : G.UpToSlots s'.heap) (XB : (Mine.hd.heap_1 w.params).In base) (TB : Top p loose mean mg mb base)
    (ex : nsIn (Mine.hd.heap_1 w.params) mainGlobals x = some (some (.ref 51)))
    (k : ∀ h' g' oe dx es nn ti tk, KtsTurn (outer.filterMap (·.frame)) g g' → Fr g' L h' (fun y => if y = n then some (.ref e) else m y) → News g' L h' ((e, oe) :: (dx, dictOf es nn) :: news) → oe.cls = .ref 51 → oe.dict = some dx → notCls oe = true →
      getL (Str.ofString "at") es = some (some (.int i ti)) → Below A₀ base outer g' → (Mine.hd.heap_1 w.params).In g' → Top p loose mean mg mb g' →
      wpAny (model prog w) ((A₀.deeper (envOf name scope L a cd)).mark (some (.ref e))) (execs (b₀ :: suite) (envOf name scope L a cd))
        (fun f s₄ => wpAny (model prog w) (A₀.deeper (envOf name scope L a cd)) (do bindName (envOf name scope L a cd) n .none; unbindBehindTheSuite (envOf name scope L a cd) n pos) (fun _ s₅ => Q f s₅) E s₄)
        (AsSuiteRaised (model prog w) ((A₀.deeper (envOf name scope L a cd)).mark (some (.ref e))) (envOf name scope L a cd) n pos (notedBy (model prog w) ((A₀.deeper (envOf name scope L a cd)).mark (some (.ref e))) (envOf name scope L a cd) (cameBackBy (model prog w) (A₀.deeper (envOf name scope L a cd)) (envOf name scope L a cd) E)))
        { s' with heap := h', toks := tk })
    (hk : scope.kind = .function := by rfl) (hlo : (envOf name scope L a cd).kindOf n = some .local := by rfl) (hx : (envOf name scope L a cd).kindOf x = some .globalImplicit := by rfl) (hd : (x == ("__debug__" : Str)) = false := by decide) :
    wpAny (model prog w) (A₀.deeper (envOf name scope L a cd)) (noteFrame (.ref e) (envOf name scope L a cd))
      (fun _ s₂ => wpAny (model prog w) (A₀.deeper (envOf name scope L a cd)) (setFlight (.ref e) none) (fun _ s₃ =>
        wpAny (model prog w) (A₀.deeper (envOf name scope L a cd)) (handleBy (.ref e) (envOf name scope L a cd) (.ExceptHandler (some (.Name x np)) (some n) (b₀ :: suite) pos :: rest)) Q E s₃) E s₂) E s' := by
  obtain ⟨B, dx, es, nn, ti, hB, hBG, hl, hat, hfl⟩ := R
  have hL : B.get? L = none := (hfl.2.2.1.mem (b := L) (List.mem_filterMap.mpr ⟨_, .head _, rfl⟩)).1
  refine fly_note (Around.frames_deeper K.stack) rfl hfl fun h₄ y₄ u₄ => ?_
  refine fly_flight y₄ fun h₅ y₅ u₅ => ?_
  have U₅ := hsm.trans (u₄.trans u₅)
  obtain ⟨g₅, T₅, F₅, K₅⟩ := kts_ground K F hBG y₅.1 U₅
  have X₅ := XB.keeps K₅.stays
  have P₅ : TopRead p loose mg mb g₅ := topRead_of (TB.keeps K₅.stays)
  obtain ⟨o₅, ho₅, hc₅, _⟩ := y₅.there
  obtain ⟨nm, q, bs, hdct, sn, sub, ab, col, dd, k0, k1, k2, k3, k5, hC⟩ := obj51 w
  have hC₅ := F₅.keep _ _ (X₅ _ _ hC)
  refine wpAny_handleBy_cons (codeAny_handlers_test (name_K F₅ X₅ P₅ ex ?_ hk hx hd)) (by intro q; cases q)
  refine wpAny_excMatches_sub_self hC₅ ho₅ hc₅ rfl (codeAny_handlers_suite_as ?_)
  refine fly_flight y₅ fun h₆ y₆ u₆ => ?_
  have U₆ := U₅.trans u₆
  obtain ⟨g₆, T₆, F₆, K₆⟩ := kts_ground K F hBG y₆.1 U₆
  obtain ⟨oe, hoe, hc, hdx, vs, hoed⟩ := y₆.there
  have ne : g₆.get? e = none := T₆.none_ _ (kts_fresh F hBG y₆.2.1 fun o ho hm => by
    obtain ⟨_, o', ho', hd⟩ := K.frames.mem hm
    rw [ho] at ho'
    cases ho'
    obtain ⟨sl, hs⟩ := U₆ _ _ (F.keep _ _ ho) hd
    rw [hoe] at hs
    cases hs
    exact hd _ hoed)
  have N₆ : News g₆ L h₆ ((e, oe) :: (dx, dictOf es nn) :: news) := fun q hq => by
    rcases List.mem_cons.mp hq with rfl | hq
    · exact News.more F₆ News.nil hoe (fun es n q => by rw [hoed] at q; cases q) ne _ (.head _)
    · exact ⟨y₆.1 _ _ (hl q hq).1, (fun z => by have := (hl q hq).1; rw [z, hL] at this; cases this), T₆.none_ _ (kts_none F.keep (hl q hq).2.1)⟩
  refine stN F₆ N₆ (fun h₇ F₇ N₇ => ?_) hk hlo
  refine k h₇ g₆ oe dx es nn ti _ T₆ F₇ N₇ hc hdx ?_ hat K₆ (XB.keeps K₆.stays) (TB.keeps K₆.stays)
  unfold notCls
  rw [hoed]
end
end Mine

end

theorem Mine.top_off_L1 : True := by
  w_top off
  trivial

section
open PySem PySem.W PySem.Calls PyProof.Rows
set_option maxRecDepth 100000
namespace Mine
theorem fillL1b : True := by
  have kk : (PySem.Challenge.rw_pf0117_01 = PySem.Challenge.rw_pf0117_01 ∧ Mine.hd.heap_1 = Mine.hd.heap_1) → True := by
    k_fill
    intro _; trivial
  trivial
section
variable {prog : Program} {w : World} {A : Around} {E : Value → Shared → Prop} {s : Shared} {x : Addr} {ox : Obj} {es : List DictEntry} {n : Nat} {name : Str} {v : Value} {expr : Bool} {Q : Value → Shared → Prop} {h₀ : Heap} {L : Addr} {m : Str → Option Value}
theorem exc_find {nameV : Value} (X : (Mine.hd.heap_1 w.params).In s.heap) (I : InstAt s.heap x ox 51 (some (dictOf es n))) {Q : Unit → Shared → Prop} (hq : Q () s) :
    wpAny (model prog w) A (checkBuiltinCall "BaseException.__getattribute__" ⟨[.ref x, nameV], []⟩) Q E s := by
  obtain ⟨hp, g, d, t, os⟩ := s
  have hk : builtinKind "BaseException.__getattribute__" = some .slot := by decide +kernel
  have hsplit : splitId "BaseException.__getattribute__" = some ("BaseException", "__getattribute__") := by decide +kernel
  have ha := PySem.F.args_bexc_ga (.ref x) nameV
  have L : Looks (model prog w) hp (isInstance (.ref x) (.type "BaseException")) true := I.type.andThen (looks_mroIn X (by k_is))
  simp only [checkBuiltinCall, hk, hsplit]
  refine wpAny_bind (L.at ?_)
  repeat (any_goals (first | assumption | wp_step))
theorem exc_get (F : Fr h₀ L s.heap m) (X₀ : (Mine.hd.heap_1 w.params).In h₀) (I : InstAt s.heap x ox 51 (some (dictOf es n)))
    (hga : findIn (Mine.hd.heap_1 w.params) (.ref 51) "__getattribute__" = some (some (.builtin "BaseException.__getattribute__"))) (hnx : findIn (Mine.hd.heap_1 w.params) (.ref 51) "__getattr__" = some none)
    (hh' : hasDictIn (Mine.hd.heap_1 w.params) 51 = true) (ha : findIn (Mine.hd.heap_1 w.params) (.ref 51) name = some none) (hl : getL name es = some (some v)) (hh : handedIn v = true) (h : Q v { s with toks := s.toks + 1 }) :
    wpAny (model prog w) A (getAttr (.ref x) name expr) Q E s := by
  have X := X₀.keeps F.keep
  clear X₀
  have hf : findObj (Mine.hd.heap_1 w.params) 51 (some (dictOf es n)) name = some (.value v) := findObj_own hh' ha rfl hl
  obtain ⟨hp, g, d, t, os⟩ := s
  have L0 := I.type (M := model prog w)
  have L1 := looks_findIn (M := model prog w) X hga
  have L2 := looks_findIn (M := model prog w) X hnx
  have L3 := looks_find (M := model prog w) X I hf
  have f3 := PySem.F.attrBase_Exception.ga.bind (.ref x)
  have hx0 : (expr && onTheHeap (Value.builtin "BaseException.__getattribute__")) = false := by cases expr <;> rfl
  have hx2 : (Value.builtin "BaseException.__getattribute__" == Value.builtin "object.__getattribute__") = false := by decide +kernel
  have hx1 : (onTheHeap (Value.ref 51) && Value.builtin "BaseException.__getattribute__" == Value.builtin "object.__getattribute__") = false := by rw [hx2]; rfl
  unfold getAttr getAttrBy
  refine wpAny_bind (wpAny_mkText (wpAny_holding (wpAny_bind (L0.at (wpAny_bind (L1.at ?_))))))
  dsimp only
  rw [hx1]
  refine wpAny_bind (L2.at ?_)
  repeat (any_goals (first | assumption | wp_step))
  refine codeAny_call_builtin PySem.F.attr_Exception.ga.plain PySem.F.entry_bexc_ga (exc_find (s := ⟨hp, g, d, t + 1, os⟩) X I ?_)
  have L0' : Looks (model prog w) hp (typeOf (Value.ref x)) (Value.ref 51) := L0
  have L3' : Looks (model prog w) hp (Builtin.ObjectAttr.find (Value.ref x) (Value.ref 51) name) (Builtin.ObjectAttr.Found.value v) := L3
  clear L0 L1 L2 L3
  repeat (any_goals (first | assumption | with_reducible refine wpAny_bind (L0'.at ?_) | with_reducible refine wpAny_bind (L3'.at ?_) | wp_step))
  show wpAny (model prog w) A (handedOut v) Q E _
  rw [handedOut_of hh]
  exact wpAny_pure h
end
end Mine

end

theorem Mine.top_off_L1b : True := by
  w_top off
  trivial

section
open PySem PySem.W PyProof.Rows
namespace Mine
/-- what a call of the def at f from the law's own frame does -/
def Says0 (d : Nat) (f : Addr) (vs : List Value) (pre : Heap → Led → Prop) (out : Led → Led → Value → Prop) : Prop :=
  ∀ (w : World) (mean : ExcName → Option Value) (mg mb : Str → Option Value) (dp un : Nat) (gd : Option (List Code)) (cn : Str) (cs : Scope) (a : Addr) (ccd : Value) (cl : List (Str × Addr)) (A₀ : Around) (h₀ : Heap) (L : Addr) (m : Str → Option Value) (news : Led) (s : Shared) (Q E : Value → Shared → Prop),
    Below A₀ h₀ [] h₀ → Fr h₀ L s.heap m → (Mine.hd.heap_1 w.params).In h₀ → News h₀ L s.heap news → Top Mine.hd.view_1 (looseW Mine.hd.view_1 []) mean mg mb h₀ → cs.kind = .function →
    pre h₀ news → dp + d < recursionLimit → un + 8 * d < cLine →
    (∀ r tl h' tk', Fr h₀ L h' m → News h₀ L h' (tl ++ news) → out tl news r → Q r { s with heap := h', toks := tk' }) →
    wpAny (model Challenge.rw_pf0117_01.row.prog w) (ktrTop dp un gd cn cs L a ccd cl []) (call (.ref f) vs) Q E s
theorem says0_use {d : Nat} {f : Addr} {vs : List Value} {pre : Heap → Led → Prop} {out : Led → Led → Value → Prop}
    {w : World} {mean : ExcName → Option Value} {mg mb : Str → Option Value} {dp un : Nat} {gd : Option (List Code)} {cn : Str} {cs : Scope} {a : Addr} {ccd : Value} {cl : List (Str × Addr)} {A₀ : Around} {h₀ : Heap} {L : Addr} {m : Str → Option Value} {news : Led} {s : Shared} {Q E : Value → Shared → Prop}
    (C : Says0 d f vs pre out) (B : Below A₀ h₀ [] h₀) (F : Fr h₀ L s.heap m) (X : (Mine.hd.heap_1 w.params).In h₀) (N : News h₀ L s.heap news) (T : Top Mine.hd.view_1 (looseW Mine.hd.view_1 []) mean mg mb h₀) (hk : cs.kind = .function)
    (hp : pre h₀ news) (hd : dp + d < recursionLimit) (hu : un + 8 * d < cLine)
    (ret : ∀ r tl h' tk', Fr h₀ L h' m → News h₀ L h' (tl ++ news) → out tl news r → Q r { s with heap := h', toks := tk' }) :
    wpAny (model Challenge.rw_pf0117_01.row.prog w) (ktrTop dp un gd cn cs L a ccd cl []) (call (.ref f) vs) Q E s :=
  C _ _ _ _ _ _ _ _ _ _ _ _ _ _ _ _ _ _ _ _ B F X N T hk hp hd hu ret
/-- the tokens, or the place of the fault -/
abbrev OutH (r : Option Int) (ds : List Dat) : Led → Led → Value → Prop := fun tl _ v => (r = none ∧ DatIn tl v (.list ds)) ∨ (∃ a t, r = some a ∧ tl = [] ∧ v = .int a t)
local macro_rules | `(tactic| ktr_call $x:term 5) => `(tactic| (k_dflt (refine' says_use $x ?k1 ?k2 ?k3 ?k4 ?k5 ?kK ?kq ?kd ?ku ?kb ?_); (case k1 => k_asm); (case k2 => k_asm); (case k3 => k_asm); (case k4 => k_asm); (case k5 => k_asm); (case kK => first | exact rfl | assumption); (case kq => first | trivial | assumption); (case kd => ktr_room); (case ku => ktr_units); (case' kb => (intro at9 e9 h9 tk9 G9 bad9 F9 U9 R9; (try k_unfold); (try dsimp only))); rotate_left; (intro r9 tl9 h9 tk9 F9 N9 o9; (obtain ⟨e9, o9⟩ := o9); (try k_sweep); (try dsimp only); (try k_fold)); rotate_right))
set_option maxRecDepth 100000 in
set_option maxHeartbeats 8000000 in
theorem law_heard_says (x : Str) (ds : List Dat) (r : Option Int) (t : Tok) (hp : Trace x 0 ds r ∧ x.length ≤ 4000) : Says0 10 170 [.str x t] (fun _ _ => True) (OutH r ds) := by
  have kk : (PySem.Challenge.rw_pf0117_01 = PySem.Challenge.rw_pf0117_01 ∧ Mine.hd.heap_1 = Mine.hd.heap_1) → True := by
    k_fill
    intro _; trivial
  clear kk
  unfold Says0
  intro w mean mg mb dp un gd cn cs a ccd cl A₀ h₀ L m news s Q E B F X N T hk hpre hdp hun hret
  refine wpAny_call ?_
  k_dflt (refine' enter_here B F X N T ?kf hk rfl ?k6 ?k7 ?k8 ?k9 ?kB ?_ ?c2 ?c3 ?c4 ?c5; (case kf => exact rfl); (case k6 => k_is); (case k7 => k_is); (case k8 => ktr_room); (case k9 => exact BindsTo.of_eq rfl); (case c5 => decide); (case kB => exact locs rfl); (case c2 => exact rfl); (case c3 => exact rfl); (case c4 => exact rfl); k_whole; intro g' L' h' FG' F' N' B' X' T'; (try dsimp only); (try k_fold))
  k_with_none
  k_with "call ref cons nil" => ktr_call (tokens_of_says _ _ _ _ hp) 5
  k_with "noteFrame ref" => ((with_reducible rename Thrown _ _ _ _ _ _ _ => rsX); (k_dflt (refine' lands_fault rsX ?zF ?zK ?zU X T ?zx ?_; (case zF => assumption); (case zK => assumption); (case zU => assumption); (case zx => k_is))); intro h' g' oe' dx' es' nn' ti' tk' T' F' N' hc' hd' hn' ha' B' X' P'; (have I' : PySem.W.InstAt h' _ oe' 51 (some (dictOf es' nn')) := ⟨(N' _ (.head _)).1, hc', hn', by rw [hd']; exact (N' _ (.tail _ (.head _))).1⟩); (try dsimp only); (try k_fold))
  k_with "getAttr ref" => ((with_reducible rename PySem.W.InstAt _ _ _ _ _ => kI9); (k_dflt (refine' exc_get ?k1 ?k2 kI9 ?k4 ?k5 ?k6 ?k7 ?k8 ?k9 ?_; (case k1 => k_asm); (case k2 => k_asm); (case k4 => k_is); (case k5 => k_is); (case k6 => k_is); (case k7 => k_is); (case k8 => assumption); (case k9 => exact rfl))); k_whole)
  k_steps
  all_goals (with_reducible rename News _ L _ _ => kN9)
  · exact hret _ [] _ _ (by assumption) (fun p hp => kN9 p (.tail _ (.tail _ hp))) (.inr ⟨_, _, by assumption, rfl, rfl⟩)
  · exact hret _ _ _ _ (by assumption) kN9 (.inl ⟨by assumption, by assumption⟩)
end Mine

end

theorem Mine.top_off_L2 : True := by
  w_top off
  trivial

section
open PySem PySem.W PyProof.Rows
namespace Mine
/-! ## the number of any sort -/
def textN (ns : List Int) (s : Int) : Str := if s = 0 then text0 ns else if s = 1 then whole1 ns ++ Str.ofString "." ++ frac ns else whole2 ns ++ tailS ns
def kindN (ns : List Int) (s : Int) : Str := if s = 0 then Str.ofString "INT" else if s = 1 then Str.ofString "REAL" else kind2 ns
def valN (ns : List Int) (s : Int) : Dat := if s = 0 then .int (val (text0 ns)) else if s = 1 then .tuple [.int (val (whole1 ns ++ frac ns)), .int (-((frac ns).length : Int))] else .tuple [.int (val (digs2 ns)), .int (value2 ns)]
theorem law_number_says (sl : Addr) (vs : List Value) (ns : List Int) (s : Int) (u : Tok) (hi : IntsAre vs ns) (hp : ns.length ≤ 63 ∧ 0 ≤ s ∧ s < 3) : Says 2 163 [.ref sl, .int s u] (fun h _ => h.IsList sl vs.toArray) (OutL (textN ns s) (kindN ns s) (valN ns s)) Never := by
  obtain ⟨hp, h0, h3⟩ := hp
  have : s = 0 ∨ s = 1 ∨ s = 2 := by omega
  rcases this with h | h | h <;> subst h
  · exact law_number_says0 sl vs ns u hi hp
  · exact law_number_says1 sl vs ns u hi hp
  · exact law_number_says2 sl vs ns u hi hp
/-! ## the two answers of _law_heard -/
abbrev OutHL (ds : List Dat) : Led → Led → Value → Prop := fun tl _ r => ∃ a vs n, (a, listOf vs.toArray n) ∈ tl ∧ r = .ref a ∧ DatAll tl vs ds
theorem Says0.mono {d : Nat} {f : Addr} {vs : List Value} {pre : Heap → Led → Prop} {out out' : Led → Led → Value → Prop} (C : Says0 d f vs pre out) (h : ∀ tl news r, out tl news r → out' tl news r) : Says0 d f vs pre out' := by
  intro w mean mg mb dp un gd cn cs a ccd cl A₀ h₀ L m news s Q E B F X N T hk hpre hdp hun hret
  exact C w mean mg mb dp un gd cn cs a ccd cl A₀ h₀ L m news s Q E B F X N T hk hpre hdp hun (fun r tl h' tk' F' N' o => hret r tl h' tk' F' N' (h _ _ _ o))
theorem heard_list (x : Str) (ds : List Dat) (t : Tok) (hp : Trace x 0 ds none ∧ x.length ≤ 4000) : Says0 10 170 [.str x t] (fun _ _ => True) (OutHL ds) :=
  (law_heard_says x ds none t hp).mono fun tl news r o => by
    rcases o with ⟨_, o⟩ | ⟨_, _, e, _⟩
    · cases o with
      | list hm ha => exact ⟨_, _, _, hm, rfl, ha⟩
    · cases e
theorem heard_at (x : Str) (i : Int) (t : Tok) (hp : (∃ ds, Trace x 0 ds (some i)) ∧ x.length ≤ 4000) : Says0 10 170 [.str x t] (fun _ _ => True) (OutI i) := by
  obtain ⟨⟨ds, hp⟩, hl⟩ := hp
  exact (law_heard_says x ds (some i) t ⟨hp, hl⟩).mono fun tl news r o => by
    rcases o with ⟨e, _⟩ | ⟨a, u, e, e1, e2⟩
    · cases e
    · cases e; subst e1; exact ⟨rfl, ⟨u, e2⟩, trivial⟩
end Mine

end

theorem Mine.top_off_L3 : True := by
  w_top off
  trivial

section
open PySem PySem.W PyProof.Rows
namespace Mine
/-! ## the texts of the law, and what is to be told of them -/
abbrev sortOf (ns : List Int) : Int := (lawAt ns 0).fmod 3
abbrev headS (ns : List Int) : Str := [Str.ofString "", Str.ofString "A1=", Str.ofString "K,-"].getD ((lawAt ns 7).fmod 3).toNat Str.empty
abbrev headN (ns : List Int) : Int := ([0, 3, 3] : List Int).getD ((lawAt ns 7).fmod 3).toNat 0
abbrev overS (ns : List Int) : Str := runText (lawAt ns 2) (1001 - 2 * (sortOf ns).fmod 2) ++ [Str.ofString "", Str.ofString ".5", Str.ofString "E1"].getD (sortOf ns).toNat Str.empty
abbrev looseS (ns : List Int) : Str := [Str.ofString "E", Str.ofString "D", Str.ofString "E+", Str.ofString "D-", Str.ofString "EX", Str.ofString "E+A"].getD ((lawAt ns 8).fmod 6).toNat Str.empty
abbrev Tk : Type := Str × Str × Int
def tokD (t : Tk) : Dat := .tuple [.str t.1, .str t.2.1, .int t.2.2]
def shD (k : Int) (t : Tk) : Dat := .tuple [.str t.1, .str t.2.1, .int (t.2.2 + k + 3)]
def headToks : List (List Tk) := [[], [(Str.ofString "NAME", Str.ofString "A1", 0), (Str.ofString "OP", Str.ofString "=", 2)], [(Str.ofString "NAME", Str.ofString "K", 0), (Str.ofString "OP", Str.ofString ",", 1), (Str.ofString "OP", Str.ofString "-", 2)]]
def looseToks : List (List Tk) := [[(Str.ofString "NAME", Str.ofString "E", 0)], [(Str.ofString "NAME", Str.ofString "D", 0)], [(Str.ofString "NAME", Str.ofString "E", 0), (Str.ofString "OP", Str.ofString "+", 1)], [(Str.ofString "NAME", Str.ofString "D", 0), (Str.ofString "OP", Str.ofString "-", 1)],
  [(Str.ofString "NAME", Str.ofString "EX", 0)], [(Str.ofString "NAME", Str.ofString "E", 0), (Str.ofString "OP", Str.ofString "+", 1), (Str.ofString "NAME", Str.ofString "A", 2)]]
def headT (ns : List Int) : List Tk := headToks.getD ((lawAt ns 7).fmod 3).toNat []
def looseT (ns : List Int) : List Tk := looseToks.getD ((lawAt ns 8).fmod 6).toNat []
def aheadD (ns : List Int) : List Dat := (headT ns).map tokD
def restD (ns : List Int) : List Dat := (looseT ns).map tokD
abbrev toldD (ns : List Int) : List Dat := aheadD ns ++ [.tuple [.str (kindN ns (sortOf ns)), valN ns (sortOf ns), .int (headN ns)], .tuple [.str (Str.ofString "OP"), .str (Str.ofString "*"), .int (headN ns + ((textN ns (sortOf ns)).length : Int))],
  .tuple [.str (Str.ofString "NAME"), .str (Str.ofString "B"), .int (headN ns + ((textN ns (sortOf ns)).length : Int) + 1)]]
abbrev realD (ns : List Int) : List Dat := [.tuple [.str (Str.ofString "REAL"), .tuple [.int 12, .int 0], .int (headN ns)]]
structure LawFacts (ns : List Int) : Prop where
  hlen : (headS ns).length ≤ 3
  tlen : (textN ns (sortOf ns)).length ≤ 1010
  llen : (looseS ns).length ≤ 3
  alen : (aheadD ns).length ≤ 3
  rlen : (looseT ns).length ≤ 3
  ok2 : ∀ d ∈ toldD ns, kqdOk 8 d = true
  ok6 : ∀ d ∈ aheadD ns ++ realD ns ++ (looseT ns).map (shD (headN ns)), kqdOk 8 d = true
  t1 : Trace (headS ns) 0 (aheadD ns) none
  t2 : Trace (headS ns ++ textN ns (sortOf ns) ++ Str.ofString "*B") 0 (toldD ns) none
  t3 : ∃ ds, Trace (headS ns ++ overS ns ++ Str.ofString "+C") 0 ds (some (headN ns))
  t4 : ∃ ds, Trace (headS ns ++ Str.ofString "2.5D" ++ Txt.item (Str.ofString "+-") ((sortOf ns).fmod 2) ++ runText 5 1001) 0 ds (some (headN ns + 3))
  t5 : Trace (looseS ns) 0 (restD ns) none
  t6 : Trace (headS ns ++ Str.ofString "12." ++ looseS ns) 0 (aheadD ns ++ realD ns ++ (looseT ns).map (shD (headN ns))) none
theorem over_len (ns : List Int) : (overS ns).length ≤ 1010 := by
  have b := fmod_bnd (sortOf ns) 2 (by decide)
  have r := (runText_run (lawAt ns 2) (n := 1001 - 2 * (sortOf ns).fmod 2) (by omega)).len
  have l : ([Str.ofString "", Str.ofString ".5", Str.ofString "E1"].getD (sortOf ns).toNat Str.empty).length ≤ 2 := by
    have h := fmod_bnd (lawAt ns 0) 3 (by decide)
    have : (lawAt ns 0).fmod 3 = 0 ∨ (lawAt ns 0).fmod 3 = 1 ∨ (lawAt ns 0).fmod 3 = 2 := by omega
    unfold sortOf
    rcases this with h | h | h <;> rw [h] <;> decide +kernel
  unfold overS
  rw [Str.length_append]; omega
theorem sign_len (ns : List Int) : (Txt.item (Str.ofString "+-") ((sortOf ns).fmod 2)).length ≤ 1 := by
  have h := fmod_bnd (sortOf ns) 2 (by decide)
  have : (sortOf ns).fmod 2 = 0 ∨ (sortOf ns).fmod 2 = 1 := by omega
  rcases this with h | h <;> rw [h] <;> decide +kernel
section
variable {ns : List Int} (f : LawFacts ns)
include f
theorem LawFacts.h1 (t : Tok) : Says0 10 170 [.str (headS ns) t] (fun _ _ => True) (OutHL (aheadD ns)) := heard_list _ _ _ ⟨f.t1, Nat.le_trans f.hlen (by decide)⟩
theorem LawFacts.h2 (t : Tok) : Says0 10 170 [.str (headS ns ++ textN ns (sortOf ns) ++ Str.ofString "*B") t] (fun _ _ => True) (OutHL (toldD ns)) := heard_list _ _ _ ⟨f.t2, by
  have a := f.hlen
  have b := f.tlen
  have c : (Str.ofString "*B").length = 2 := by decide +kernel
  rw [Str.length_append, Str.length_append]; omega⟩
theorem LawFacts.h3 (t : Tok) : Says0 10 170 [.str (headS ns ++ overS ns ++ Str.ofString "+C") t] (fun _ _ => True) (OutI (headN ns)) := heard_at _ _ _ ⟨f.t3, by
  have a := f.hlen
  have b := over_len ns
  have c : (Str.ofString "+C").length = 2 := by decide +kernel
  rw [Str.length_append, Str.length_append]; omega⟩
theorem LawFacts.h4 (t : Tok) : Says0 10 170 [.str (headS ns ++ Str.ofString "2.5D" ++ Txt.item (Str.ofString "+-") ((sortOf ns).fmod 2) ++ runText 5 1001) t] (fun _ _ => True) (OutI (headN ns + 3)) := heard_at _ _ _ ⟨f.t4, by
  have a := f.hlen
  have b := sign_len ns
  have c : (Str.ofString "2.5D").length = 4 := by decide +kernel
  have d := (runText_run 5 (n := 1001) (by decide)).len
  rw [Str.length_append, Str.length_append, Str.length_append]; omega⟩
theorem LawFacts.h5 (t : Tok) : Says0 10 170 [.str (looseS ns) t] (fun _ _ => True) (OutHL (restD ns)) := heard_list _ _ _ ⟨f.t5, Nat.le_trans f.llen (by decide)⟩
theorem LawFacts.h6 (t : Tok) : Says0 10 170 [.str (headS ns ++ Str.ofString "12." ++ looseS ns) t] (fun _ _ => True) (OutHL (aheadD ns ++ realD ns ++ (looseT ns).map (shD (headN ns)))) := heard_list _ _ _ ⟨f.t6, by
  have a := f.hlen
  have b := f.llen
  have c : (Str.ofString "12.").length = 3 := by decide +kernel
  rw [Str.length_append, Str.length_append]; omega⟩
end
end Mine

end

theorem Mine.top_off_D1 : True := by
  w_top off
  trivial

section
open PySem PySem.W PySem.Calls PyProof.Rows
namespace Mine
section
variable {prog : Program} {w : World} {A : Around} {E : Value → Shared → Prop} {s : Shared} {h₀ : Heap} {L : Addr} {m : Str → Option Value} {news : Led}
theorem led_list {h : Heap} {a : Addr} {xs : List Value} {k : Nat} (N : News h₀ L h news) (ma : (a, listOf xs.toArray k) ∈ news) : h.IsList a xs.toArray := ⟨_, (N _ ma).1, rfl, k, rfl⟩
/-- one ledger within another -/
def Sub (n l : Led) : Prop := ∀ p ∈ n, p ∈ l
theorem Sub.refl {n : Led} : Sub n n := fun _ h => h
theorem Sub.left {n l : Led} : Sub n (n ++ l) := fun _ h => List.mem_append_left _ h
theorem Sub.right {n k l : Led} (s : Sub n l) : Sub n (k ++ l) := fun p h => List.mem_append_right _ (s p h)
theorem Sub.tail {n l : Led} {q : Addr × Obj} (s : Sub n l) : Sub n (q :: l) := fun p h => List.mem_cons_of_mem _ (s p h)
theorem Sub.nil {l : Led} : Sub [] l := fun _ h => nomatch h
theorem Sub.cons {n l : Led} {q : Addr × Obj} (m : q ∈ l) (s : Sub n l) : Sub (q :: n) l := fun p h => by
  rcases List.mem_cons.mp h with rfl | h
  · exact m
  · exact s p h
/-- two short texts -/
theorem add_s {x y : Str} {t u : Tok} {Q : Value → Shared → Prop} (hx : x.length ≤ 4000) (hy : y.length ≤ 4000) (h : ∀ t' k, Q (.str (x ++ y) t') { s with toks := k }) : wpAny (model prog w) A (binaryOp .Add (.str x t) (.str y u)) Q E s :=
  KXadd.add hx hy (by decide) fun t' k _ => h t' k
/-- two lists of data, one behind the other -/
theorem add_dat {n₁ n₂ : Led} {a b : Addr} {xs ys : List Value} {ka kb : Nat} {ds es : List Dat} {Q : Value → Shared → Prop} (F : Fr h₀ L s.heap m) (N : News h₀ L s.heap news)
    (ma : (a, listOf xs.toArray ka) ∈ news) (Da : DatAll n₁ xs ds) (sa : ∀ p ∈ n₁, p ∈ news) (mb : (b, listOf ys.toArray kb) ∈ news) (Db : DatAll n₂ ys es) (sb : ∀ p ∈ n₂, p ∈ news) (hsz : ds.length + es.length ≤ 100)
    (h : ∀ D h', Fr h₀ L h' m → News h₀ L h' ((D, listOf (xs ++ ys).toArray 0) :: news) → DatAll ((D, listOf (xs ++ ys).toArray 0) :: news) (xs ++ ys) (ds ++ es) → Q (.ref D) { s with heap := h' }) :
    wpAny (model prog w) A (binaryOp .Add (.ref a) (.ref b)) Q E s := by
  have hz : xs.length + ys.length ≤ sizeLine := by
    have : (100 : Nat) ≤ sizeLine := by decide
    rw [Da.length, Db.length]; omega
  refine add_lists (hsz := hz) F N (led_list N ma) (led_list N mb) fun h' F' N' => h _ h' F' N' ?_
  exact DatAll.append (DatAll.mono (fun p hp => .tail _ (sa p hp)) Da) (DatAll.mono (fun p hp => .tail _ (sb p hp)) Db)
open Classical in
/-- a list of data is no other than one of the same data -/
theorem ne_same {n₁ n₂ : Led} {a b : Addr} {xs ys : List Value} {ka kb : Nat} {ds es : List Dat} {Q : Value → Shared → Prop} (N : News h₀ L s.heap news)
    (ma : (a, listOf xs.toArray ka) ∈ news) (Da : DatAll n₁ xs ds) (sa : ∀ p ∈ n₁, p ∈ news) (mb : (b, listOf ys.toArray kb) ∈ news) (Db : DatAll n₂ ys es) (sb : ∀ p ∈ n₂, p ∈ news)
    (e : ds = es) (ok : ∀ d ∈ ds, kqdOk 8 d = true) (hu : A.units + 64 < cLine) (h : Q (.bool false) s) : wpAny (model prog w) A (compareOp .NotEq (.ref a) (.ref b)) Q E s := by
  subst e
  refine kqd_ne N ma rfl rfl Da sa mb rfl rfl Db sb ok ok hu ?_
  rw [decide_eq_true rfl]
  exact h
/-- what a call made goes behind what stood, but for one object -/
theorem led_take {h : Heap} {tl : Led} {q : Addr × Obj} (N : News h₀ L h (tl ++ news)) (hq : q ∈ tl) : News h₀ L h (q :: (news ++ tl)) := fun p hp => N p (by
  rcases List.mem_cons.mp hp with rfl | hp
  · exact List.mem_append_left _ hq
  · rcases List.mem_append.mp hp with hp | hp
    · exact List.mem_append_right _ hp
    · exact List.mem_append_left _ hp)
/-- the cell of the frame lies behind a list and ahead of what a call made -/
theorem cell_upd {h : Heap} {c l' : Addr} {o w q : Obj} {qa : Addr} {tl : Led} {v₀ : Option Value} (N : News h₀ L h ((l', o) :: (qa, q) :: (c, w) :: tl)) (tu : Seqs tl) (hq : (qa, q) ∈ tl) (hw : w.data = .cell v₀) (hl : c < l') :
    UpdF c w ((l', o) :: (qa, q) :: (c, w) :: tl) (fun o' => (l', o) :: (qa, q) :: (c, o') :: tl) := by
  have hc : ∀ p ∈ tl, p.1 ≠ c := fun p hp e => by
    obtain ⟨a, n, hd⟩ := tu p hp
    have h1 := (N p (.tail _ (.tail _ (.tail _ hp)))).1
    have h2 := (N (c, w) (.tail _ (.tail _ (.head _)))).1
    rw [e] at h1
    rw [show h.get? c = some w from h2] at h1
    cases h1
    rw [hw] at hd
    cases hd
  exact .tail (Nat.ne_of_gt hl) (.tail (hc _ hq) (.head hc))
/-- a comprehension whose elements are data -/
theorem dat_rest {env : Env} {elt : Expr} {x : Str} {scope : Scope} {cl : List (Str × Addr)} {S : Led → Prop} {Fin : List Value → Led → Prop} {its : Array Value} (f : Nat → Dat)
    (turn : ∀ i v I oI C oC D m₂ ys news' h tk (E' : Value → Shared → Prop), its[i]? = some v → LCg.NsObj oC m₂ → m₂ x = some v → Fr h₀ L h m → News h₀ L h ((I, oI) :: (C, oC) :: (D, LCg.lst ys) :: news') → LCg.Off3 I C D news' → ((@Ne Nat I C) ∧ (@Ne Nat I D) ∧ (@Ne Nat C D)) → (∀ p ∈ news, p ∈ news') →
      wpAny (model prog w) A (eval elt (compEnvC scope cl C env)) (LCg.CompEnd h₀ L m { s with heap := h, toks := tk } I oI C oC D (LCg.lst ys) S (fun y news'' => (∀ p ∈ news', p ∈ news'') ∧ DatIn news'' y (f i))) E' { s with heap := h, toks := tk })
    (fin : ∀ ys news', (∀ p ∈ news, p ∈ news') → DatAll news' ys ((List.range its.size).map f) → Fin ys news') :
    LCg.CompRest prog w A h₀ L m env elt x scope cl s S (fun i v => its[i]? = some v) Fin its.size 0 [] news := by
  have key : ∀ (j i : Nat) (ys : List Value) (news' : Led), i + j = its.size → (∀ p ∈ news, p ∈ news') → DatAll news' ys ((List.range i).map f) → LCg.CompRest prog w A h₀ L m env elt x scope cl s S (fun i v => its[i]? = some v) Fin j i ys news' := by
    intro j
    induction j with
    | zero =>
      intro i ys news' hi hs hd
      have e : i = its.size := by omega
      subst e
      exact LCg.CompRest.zero (fin ys news' hs hd)
    | succ j ih =>
      intro i ys news' hi hs hd
      refine LCg.CompRest.succ fun v I oI C oC D m₂ h tk E' hv hC hx F N off ne => ?_
      refine wpAny_mono (turn i v I oI C oC D m₂ ys news' h tk E' hv hC hx F N off ne hs) (fun y s' q => ?_) fun _ _ z => z
      obtain ⟨h', tk', news'', e, F', N', off', hS, sub, hy⟩ := q
      refine ⟨h', tk', news'', e, F', N', off', hS, ih (i + 1) _ news'' (by omega) (fun p hp => sub p (hs p hp)) ?_⟩
      rw [List.range_succ, List.map_append]
      exact DatAll.append (DatAll.mono sub hd) (DatAll.one hy)
  exact key its.size 0 [] news (by omega) (fun _ h => h) .nil
end
end Mine

end

theorem Mine.top_off_V2 : True := by
  w_top off
  trivial

section
open PySem PySem.W PySem.Calls PyProof.Rows
namespace Mine
section
variable {prog : Program} {w : World} {A : Around} {E : Value → Shared → Prop} {s : Shared} {t u : Tok} {Q : Value → Shared → Prop}
theorem ne_int_same {a b : Int} (e : a = b) (h : Q (.bool false) s) : wpAny (model prog w) A (compareOp .NotEq (.int a t) (.int b u)) Q E s := by
  subst e
  refine PyProof.Rows.ne_int ?_
  rw [bne_self_eq_false]
  exact h
theorem ne_str_same {x y : Str} (e : x = y) (h : Q (.bool false) s) : wpAny (model prog w) A (compareOp .NotEq (.str x t) (.str y u)) Q E s := by
  subst e
  refine PyProof.Rows.ne_str ?_
  rw [bne_self_eq_false]
  exact h
theorem eq_str_same {x y : Str} (e : x = y) (h : Q (.bool true) s) : wpAny (model prog w) A (compareOp .Eq (.str x t) (.str y u)) Q E s := by
  subst e
  refine PyProof.Rows.eq_str ?_
  rw [beq_self_eq_true]
  exact h
end
theorem five {ns : List Int} (f : LawFacts ns) : ∃ z : Str, z.length ≤ 1001 ∧ (∀ t u, Says 1 151 [.int 5 t, .int 1001 u] (fun _ _ => True) (OutS z) Never) ∧
    ∀ t, Says0 10 170 [.str (headS ns ++ Str.ofString "2.5D" ++ Txt.item (Str.ofString "+-") ((sortOf ns).fmod 2) ++ z) t] (fun _ _ => True) (OutI (headN ns + 3)) :=
  ⟨runText 5 1001, by have := (runText_run 5 (n := 1001) (by decide)).len; omega, fun t u => (run_says 5 1001 t u ⟨by decide, by decide, by decide⟩).mono fun tl news r o => ⟨o.1, o.2.1, trivial⟩, f.h4⟩
theorem mem_hd {h₀ h : Heap} {L : Addr} {q : Addr × Obj} {l : Led} (_ : News h₀ L h (q :: l)) : q ∈ q :: l := .head _
theorem show00E : showP 0 0 (Str.ofString "E") = Str.ofString "0." := by decide +kernel
theorem show00D : showP 0 0 (Str.ofString "D") = Str.ofString "0.D0" := by decide +kernel
theorem over_lit (ns : List Int) : ([Str.ofString "", Str.ofString ".5", Str.ofString "E1"].getD ((lawAt ns 0).fmod 3).toNat Str.empty).length ≤ 2 := by
  have h := fmod_bnd (lawAt ns 0) 3 (by decide)
  have : (lawAt ns 0).fmod 3 = 0 ∨ (lawAt ns 0).fmod 3 = 1 ∨ (lawAt ns 0).fmod 3 = 2 := by omega
  rcases this with h | h | h <;> rw [h] <;> decide +kernel
def restF (ns : List Int) (i : Nat) : Dat := (((looseT ns).map (shD (headN ns)))[i]?).getD .none
theorem rest_all (ns : List Int) : (List.range (looseT ns).length).map (restF ns) = (looseT ns).map (shD (headN ns)) := by
  apply List.ext_getElem
  · simp
  · intro i h1 h2
    have h3 : i < (looseT ns).length := by simpa using h2
    simp [restF, h3]
theorem all_at {n : Led} : ∀ {vs : List Value} {ts : List Tk} {i : Nat} {v : Value}, DatAll n vs (ts.map tokD) → vs[i]? = some v → ∃ t, ts[i]? = some t ∧ DatIn n v (tokD t)
  | [], ts, i, v, _, h => by simp at h
  | w :: vs, [], i, v, D, h => by cases D
  | w :: vs, t :: ts, i, v, D, h => by
    rw [List.map_cons] at D
    cases D with
    | cons a r =>
      cases i with
      | zero => simp at h; subst h; exact ⟨t, rfl, a⟩
      | succ i =>
        obtain ⟨t', e, q⟩ := all_at (i := i) (v := v) r (by simpa using h)
        exact ⟨t', by simpa using e, q⟩
theorem tok_at {n : Led} {vs : List Value} {ns : List Int} {i : Nat} {v : Value} (D : DatAll n vs (restD ns)) (h : vs.toArray[i]? = some v) : ∃ (a : Addr) (k s : Str) (p : Int) (t1 t2 t3 : Tok) (nn : Nat), v = .ref a ∧
    (a, ({ cls := .type "tuple", data := .seq #[.str k t1, .str s t2, .int p t3] nn } : Obj)) ∈ n ∧ restF ns i = .tuple [.str k, .str s, .int (p + headN ns + 3)] := by
  obtain ⟨⟨k, s, p⟩, e, q⟩ := all_at D (by simpa using h)
  unfold tokD at q
  cases q with
  | tuple hm ha =>
    cases ha with
    | cons h1 r1 =>
      cases h1
      cases r1 with
      | cons h2 r2 =>
        cases h2
        cases r2 with
        | cons h3 r3 =>
          cases h3
          cases r3
          refine ⟨_, k, s, p, _, _, _, _, rfl, hm, ?_⟩
          unfold restF
          rw [List.getElem?_map, e]
          rfl
theorem tok_end {s₁ : Shared} {h₀ h' : Heap} {L I C D T a ax : Addr} {m : Str → Option Value} {oI oC o : Obj} {ys : List Value} {its : Array Value} {base news' all : Led} {k s : Str} {q : Int} {t1 t2 t3 : Tok} {nn tk : Nat} {f : Dat} {R : Prop}
    (F : Fr h₀ L h' m) (N : News h₀ L h' ((T, ({ cls := .type "tuple", data := .seq #[.str k t1, .str s t2, .int q t3] nn } : Obj)) :: (a, o) :: (I, oI) :: (C, oC) :: (D, LCg.lst ys) :: all)) (hn : Sub news' all)
    (hl : a < T ∧ I < T ∧ C < T ∧ D < T ∧ R) (off : LCg.Off3 I C D news') (hS : LCg.SrcAt h₀ ax its base) (sub : ∀ p ∈ base, p ∈ news') (hf : f = .tuple [.str k, .str s, .int q]) :
    LCg.CompEnd h₀ L m s₁ I oI C oC D (LCg.lst ys) (LCg.SrcAt h₀ ax its) (fun y news'' => (∀ p ∈ news', p ∈ news'') ∧ DatIn news'' y f) (.ref T) { s₁ with heap := h', toks := tk } := by
  subst hf
  refine LCg.CompEnd.intro F N ((T, ({ cls := .type "tuple", data := .seq #[.str k t1, .str s t2, .int q t3] nn } : Obj)) :: news') ?_ ⟨⟨Nat.ne_of_gt hl.2.1, Nat.ne_of_gt hl.2.2.1, Nat.ne_of_gt hl.2.2.2.1⟩, off⟩ ?_ ⟨fun p h => .tail _ h, dat_tup3 (.head _) (.str _ _) (.str _ _) (.int _ _)⟩
  · intro p hp
    rcases List.mem_cons.mp hp with rfl | hp
    · exact .tail _ (.tail _ (.head _))
    rcases List.mem_cons.mp hp with rfl | hp
    · exact .tail _ (.tail _ (.tail _ (.head _)))
    rcases List.mem_cons.mp hp with rfl | hp
    · exact .tail _ (.tail _ (.tail _ (.tail _ (.head _))))
    rcases List.mem_cons.mp hp with rfl | hp
    · exact .head _
    exact .tail _ (.tail _ (.tail _ (.tail _ (.tail _ (hn _ hp)))))
  · rcases hS with h | ⟨o, hm, r⟩
    · exact .inl h
    · exact .inr ⟨o, .tail _ (sub _ hm), r⟩
theorem tok_ledger {h₀ h : Heap} {L I C D a : Addr} {oI oC o : Obj} {ys : List Value} {base news' : Led} (N : News h₀ L h ((I, oI) :: (C, oC) :: (D, LCg.lst ys) :: news')) (hm : (a, o) ∈ base) (sub : ∀ p ∈ base, p ∈ news') :
    News h₀ L h ((a, o) :: (I, oI) :: (C, oC) :: (D, LCg.lst ys) :: (base ++ news')) := fun p hp => N p (by
  rcases List.mem_cons.mp hp with rfl | hp
  · exact .tail _ (.tail _ (.tail _ (sub _ hm)))
  rcases List.mem_cons.mp hp with rfl | hp
  · exact .head _
  rcases List.mem_cons.mp hp with rfl | hp
  · exact .tail _ (.head _)
  rcases List.mem_cons.mp hp with rfl | hp
  · exact .tail _ (.tail _ (.head _))
  rcases List.mem_append.mp hp with hp | hp
  · exact .tail _ (.tail _ (.tail _ (sub _ hp)))
  · exact .tail _ (.tail _ (.tail _ hp)))
theorem fin_tok {h₀ : Heap} {L : Addr} {m : Str → Option Value} {s : Shared} {Q : Value → Shared → Prop} {ys vs : List Value} {n base news' : Led} {ns : List Int} (D : DatAll n vs (restD ns)) (hd : DatAll news' ys ((List.range vs.toArray.size).map (restF ns))) (sub : ∀ p ∈ base, p ∈ news')
    (h : ∀ D h tk, Fr h₀ L h m → News h₀ L h ((D, listOf ys.toArray ys.length) :: (base ++ news')) → DatAll news' ys ((looseT ns).map (shD (headN ns))) → Q (.ref D) { s with heap := h, toks := tk }) : LCg.FinE h₀ L m s Q ys news' := by
  have e : vs.toArray.size = (looseT ns).length := by
    rw [List.size_toArray, D.length]
    unfold restD
    rw [List.length_map]
  rw [e, rest_all] at hd
  intro D h' tk F N off
  refine h D h' tk F (fun p hp => N p ?_) hd
  rcases List.mem_cons.mp hp with rfl | hp
  · exact .head _
  rcases List.mem_append.mp hp with hp | hp
  · exact .tail _ (sub _ hp)
  · exact .tail _ hp
theorem sub_of {n : Led} {vs : List Value} {ds : List Dat} (_ : DatAll n vs ds) (l : Led) (h : Sub n l) : Sub n l := h
theorem fin_tokA {h₀ : Heap} {L : Addr} {m : Str → Option Value} {s : Shared} {y : Str} {Q : Flow → Shared → Prop} {ys vs : List Value} {n base news' : Led} {ns : List Int} (D : DatAll n vs (restD ns)) (hd : DatAll news' ys ((List.range vs.toArray.size).map (restF ns))) (sub : ∀ p ∈ base, p ∈ news')
    (h : ∀ D h tk, Fr h₀ L h (fun z => if z = y then some (.ref D) else m z) → News h₀ L h ((D, listOf ys.toArray ys.length) :: (base ++ news')) → DatAll news' ys ((looseT ns).map (shD (headN ns))) → Q .next { s with heap := h, toks := tk }) : LCg.FinA h₀ L m s y Q ys news' := by
  have e : vs.toArray.size = (looseT ns).length := by
    rw [List.size_toArray, D.length]
    unfold restD
    rw [List.length_map]
  rw [e, rest_all] at hd
  intro D h' tk F N off
  refine h D h' tk F (fun p hp => N p ?_) hd
  rcases List.mem_cons.mp hp with rfl | hp
  · exact .head _
  rcases List.mem_append.mp hp with hp | hp
  · exact .tail _ (sub _ hp)
  · exact .tail _ hp
theorem unr_end {h₀ h' : Heap} {L I : Addr} {it : Obj} {rest : (Str → Option Value) → Led → Prop} {s₁ : Shared} {tk : Nat} {m' : Str → Option Value} {q : Addr × Obj} {R : Led} (F : Fr h₀ L h' m') (N : News h₀ L h' (q :: (I, it) :: R))
    (l : ∀ p ∈ R, p.1 < I) (r : rest m' R) : UnrEnd h₀ L s₁ I it rest { s₁ with heap := h', toks := tk } :=
  UnrEnd.intro F N R (fun p hp => .tail _ hp) (fun p hp => Nat.ne_of_lt (l p hp)) r
end Mine

end

theorem Mine.top_off_V3 : True := by
  w_top off
  trivial

section
open PySem PySem.W PySem.Calls PyProof.Rows
namespace Mine
/-! ## a loop over items that are known one by one, told once: all of them are G, and the names at a turn's end are R -/
section
variable {prog : Program} {w : World} {A : Around} {E : Value → Shared → Prop} {s : Shared} {env : Env} {h₀ : Heap} {target : Expr} {body : List Stmt} {Q : Flow → Shared → Prop} {P : Nat → Value → Prop} {fp : List Addr}
theorem unr_inv (R : (Str → Option Value) → Prop) (G : Value → Prop) {k i : Nat} {m₀ : Str → Option Value} {news₀ : Led} (hR : R m₀) (hG : ∀ i v, P i v → G v)
    (turn : ∀ m₁ news₁ v h₁ tk₁ own, R m₁ → G v → Fr h₀ env.locals h₁ m₁ → News h₀ env.locals h₁ (own ++ news₁) →
      wpAny (model prog w) A (assign target env v) (fun _ s₂ => wpAny (model prog w) A (execs body env)
        (LoopStep3 h₀ env.locals own news₁ (fun m' _ => R m') { s with heap := h₁, toks := tk₁ } (fun v s' => Q (.ret v) s') fun s' => Q .next s') E s₂) E { s with heap := h₁, toks := tk₁ })
    (done : ∀ m' news' h' tk, R m' → Fr h₀ env.locals h' m' → News h₀ env.locals h' news' → Q .next { s with heap := h', toks := tk }) :
    Unr prog w A E h₀ env target body Q P fp s k i m₀ news₀ := by
  have all : ∀ (k i : Nat) (m₁ : Str → Option Value) (news₁ : Led), R m₁ → Unr prog w A E h₀ env target body Q P fp s k i m₁ news₁ := by
    intro k
    induction k with
    | zero => intro i m₁ news₁ r h' tk F N; exact done _ _ _ _ r F N
    | succ k ih =>
      intro i m₁ news₁ r v h₁ tk₁ own hP _ F N
      refine wpAny_mono (turn m₁ news₁ v h₁ tk₁ own r (hG _ _ hP) F N) (fun _ s₂ h₂ => wpAny_mono h₂ (fun f s₃ h₃ => ?_) fun _ _ e => e) fun _ _ e => e
      cases f with
      | ret v => exact h₃
      | brk => exact h₃
      | cont =>
        obtain ⟨e0, h₃', tk₃, m₂, news₂, e1, F₃, N₃, ha₃, hJ₃⟩ := h₃
        exact ⟨e0, h₃', tk₃, m₂, news₂, e1, F₃, N₃, ha₃, ih _ _ _ hJ₃⟩
      | next =>
        obtain ⟨e0, h₃', tk₃, m₂, news₂, e1, F₃, N₃, ha₃, hJ₃⟩ := h₃
        exact ⟨e0, h₃', tk₃, m₂, news₂, e1, F₃, N₃, ha₃, ih _ _ _ hJ₃⟩
  exact all k i m₀ news₀ hR
end
theorem news_none {h h' : Heap} {L : Addr} {l : Led} (_N : News h L h' l) : News h L h' [] := fun _ hp => nomatch hp
/-- an int from -20 to 20 -/
def Small (v : Value) : Prop := ∃ (z : Int) (t : Tok), v = .int z t ∧ -20 ≤ z ∧ z ≤ 20
theorem small_nil : ∀ v ∈ ([] : List Value), Small v := fun _ h => nomatch h
theorem small_cons {z : Int} {t : Tok} {l : List Value} (h1 : -20 ≤ z) (h2 : z ≤ 20) (r : ∀ v ∈ l, Small v) : ∀ v ∈ Value.int z t :: l, Small v := fun v h => by
  rcases List.mem_cons.mp h with rfl | h
  · exact ⟨_, _, rfl, h1, h2⟩
  · exact r v h
theorem small_at {l : List Value} (h : ∀ v ∈ l, Small v) {i : Nat} {v : Value} (hv : l.toArray[i]? = some v) : Small v :=
  h v (List.mem_of_getElem? (by rw [List.getElem?_toArray] at hv; exact hv))
/-- the name m is bound to V -/
def HasM (V : Value) (m : Str → Option Value) : Prop := m (Str.ofString "m") = some V
end Mine

end

theorem Mine.top_off_V4 : True := by
  w_top off
  trivial

section
open PySem PySem.W PyProof.Rows Builtin.Str
namespace Mine
/-! ## the signs that lie ahead -/
structure At (x : Str) (i : Int) (q : List Nat) : Prop where
  pos : 0 ≤ i
  eq : (li x).drop i.toNat = q
  le : i ≤ x.length
section
variable {x : Str} {i : Int} {q w : List Nat} {c : Nat}
theorem At.len (h : At x i q) : i + (q.length : Int) = x.length := by
  have e := congrArg List.length h.eq
  rw [List.length_drop, li_len] at e
  have a := h.le
  have b := h.pos
  omega
theorem At.zero (x : Str) : At x 0 (li x) := ⟨Int.le_refl _, rfl, Int.natCast_nonneg _⟩
theorem At.skip (h : At x i (w ++ q)) : At x (i + (w.length : Int)) q where
  pos := by have := h.pos; omega
  eq := by
    have b := h.pos
    have e : (i + (w.length : Int)).toNat = i.toNat + w.length := by omega
    rw [e, ← List.drop_drop, h.eq, List.drop_left]
  le := by
    have a := h.len
    rw [List.length_append] at a
    omega
theorem At.skipS {s : Str} (h : At x i (li s ++ q)) : At x (i + (s.length : Int)) q := by
  have := h.skip
  rw [li_len] at this
  exact this
theorem At.next (h : At x i (c :: q)) : At x (i + 1) q := by
  have := At.skip (w := [c]) (q := q) h
  exact this
theorem At.lt (h : At x i (c :: q)) : i < (x.length : Int) := by
  have a := h.len
  rw [List.length_cons] at a
  omega
theorem At.end_ (h : At x i []) : ¬ i < (x.length : Int) := by
  have a := h.len
  rw [List.length_nil] at a
  omega
theorem At.getD (h : At x i (c :: q)) : (li x).getD i.toNat 0 = c := by
  have e := drop_cons h.pos h.lt
  rw [h.eq] at e
  injection e with e1 _
  exact e1.symm
theorem At.item (h : At x i (c :: q)) : Txt.item x i = ⟨#[c]⟩ := by rw [item_is h.pos h.lt, h.getD]
theorem At.occ (h : At x i (c :: q)) (d : Str) : (occurrences d (Txt.item x i) 0 d.length 1).isEmpty = !((li d).contains c) := by rw [occ_is h.pos h.lt, h.getD]
theorem tw {p : Nat → Bool} (hw : ∀ c ∈ w, p c = true) (hq : ∀ c r, q = c :: r → p c = false) : (w ++ q).takeWhile p = w := by
  rw [List.takeWhile_append_of_pos hw]
  cases q with
  | nil => simp
  | cons c r => rw [List.takeWhile_cons, if_neg (by rw [hq c r rfl]; decide), List.append_nil]
theorem At.run {d : Str} (h : At x i (w ++ q)) (hw : ∀ c ∈ w, (li d).contains c = true) (hq : ∀ c r, q = c :: r → (li d).contains c = false) : runOf x i d = i + (w.length : Int) := by
  unfold runOf
  rw [h.eq, tw hw hq]
theorem At.slice (h : At x i (w ++ q)) : li (Txt.slice x (some i) (some (i + (w.length : Int)))) = w := by
  have b := h.pos
  rw [slice_li b (by omega), h.eq]
  have e : (i + (w.length : Int) - i).toNat = w.length := by omega
  rw [e, List.take_left]
theorem At.sliceS {s : Str} (h : At x i (li s ++ q)) : Txt.slice x (some i) (some (i + (s.length : Int))) = s := str_eq (by
  have := h.slice
  rw [li_len] at this
  exact this)
theorem one_beq {s' : Str} {k : Nat} (h : li s' = [k]) : ((⟨#[c]⟩ : Str) == s') = (c == k) := by
  by_cases e : c = k
  · subst e
    have : (⟨#[c]⟩ : Str) = s' := str_eq h.symm
    rw [this]
    simp
  · have e1 : (c == k) = false := by simpa using e
    rw [e1]
    cases hb : ((⟨#[c]⟩ : Str) == s') with
    | false => rfl
    | true =>
      exfalso
      have a := congrArg li (eq_of_beq hb)
      rw [h] at a
      have a' : [c] = [k] := a
      injection a' with a' _
      exact e a'
theorem At.isS {s' : Str} {k : Nat} (h : At x i (c :: q)) (hs : li s' = [k]) : (Txt.item x i == s') = (c == k) := by rw [h.item]; exact one_beq hs
end
/-! ## kinds of signs -/
theorem li_letters : li LETTERS = [65, 66, 67, 68, 69, 70, 71, 72, 73, 74, 75, 76, 77, 78, 79, 80, 81, 82, 83, 84, 85, 86, 87, 88, 89, 90] := by decide +kernel
theorem letter_iff (c : Nat) : (li LETTERS).contains c = true ↔ 65 ≤ c ∧ c ≤ 90 := by
  rw [show li LETTERS = List.range' 65 26 from by rw [li_letters]; decide, List.contains_iff_mem, List.mem_range'_1]
  omega
theorem word_iff (c : Nat) : (li WORDS).contains c = true ↔ (65 ≤ c ∧ c ≤ 90) ∨ (48 ≤ c ∧ c ≤ 57) := by
  have e : li WORDS = li LETTERS ++ li DIGITS := li_app _ _
  rw [e, ← letter_iff, ← digit_iff]
  simp
theorem li_signs : li SIGNS = [43, 45, 42, 47, 40, 41, 44, 61, 58] := by decide +kernel
theorem li_ed : li (Str.ofString "ED") = [69, 68] := by decide +kernel
theorem li_pm : li (Str.ofString "+-") = [43, 45] := by decide +kernel
theorem li_ts : li (Str.ofString "*/") = [42, 47] := by decide +kernel
theorem li_quote : li (Str.ofString "'") = [39] := by decide +kernel
theorem li_minus : li (Str.ofString "-") = [45] := by decide +kernel
theorem li_plus : li (Str.ofString "+") = [43] := by decide +kernel
theorem li_empty : li (Str.ofString "") = [] := by decide +kernel
theorem not_has {d : Str} {c : Nat} (h : ¬ (li d).contains c = true) : (li d).contains c = false := by simpa using h
theorem no_digit {c : Nat} (h : ¬ (48 ≤ c ∧ c ≤ 57)) : (li DIGITS).contains c = false := not_has (by rw [digit_iff]; exact h)
theorem no_letter {c : Nat} (h : ¬ (65 ≤ c ∧ c ≤ 90)) : (li LETTERS).contains c = false := not_has (by rw [letter_iff]; exact h)
theorem no_word {c : Nat} (h : ¬ ((65 ≤ c ∧ c ≤ 90) ∨ (48 ≤ c ∧ c ≤ 57))) : (li WORDS).contains c = false := not_has (by rw [word_iff]; exact h)
/-- what follows is no sign of that kind -/
abbrev Then (p : Nat → Prop) (q : List Nat) : Prop := ∀ c r, q = c :: r → p c
/-! ## a name, an operator -/
theorem tr_name {x s : Str} {i : Int} {q : List Nat} {ds : List Dat} {r : Option Int} (h : At x i (li s ++ q)) (h0 : ∃ c w, li s = c :: w ∧ 65 ≤ c ∧ c ≤ 90) (hw : ∀ c ∈ li s, (65 ≤ c ∧ c ≤ 90) ∨ (48 ≤ c ∧ c ≤ 57))
    (hq : Then (fun c => ¬ ((65 ≤ c ∧ c ≤ 90) ∨ (48 ≤ c ∧ c ≤ 57))) q) (h6 : s.length ≤ 6) (T : Trace x (i + (s.length : Int)) ds r) : Trace x i (.tuple [.str (Str.ofString "NAME"), .str s, .int i] :: ds) r := by
  obtain ⟨c, w, e, c1, c2⟩ := h0
  have hc : At x i (c :: (w ++ q)) := by rw [e] at h; exact h
  have L : (occurrences LETTERS (Txt.item x i) 0 LETTERS.length 1).isEmpty = false := by rw [hc.occ, (letter_iff c).mpr ⟨c1, c2⟩]; rfl
  have D : (occurrences DIGITS (Txt.item x i) 0 DIGITS.length 1).isEmpty = true := by rw [hc.occ, no_digit (by omega)]; rfl
  have R : runOf x i WORDS = i + (s.length : Int) := by
    rw [h.run (fun c hc => (word_iff c).mpr (hw c hc)) (fun c r e => no_word (hq c r e)), li_len]
  have hl : 0 < s.length := by rw [← li_len, e]; exact Nat.succ_pos _
  refine .tok hc.lt ⟨fun _ => by omega, fun z => (by rw [D] at z; cases z), fun z => (by rw [L] at z; cases z)⟩ (e := i + (s.length : Int)) ?_ (by omega) T
  unfold tokenAt
  rw [if_neg (by rw [L]; decide), R, h.sliceS]
theorem tr_op {x s : Str} {i : Int} {c : Nat} {q : List Nat} {ds : List Dat} {r : Option Int} (hs : li s = [c]) (h : At x i (c :: q)) (hc : (li SIGNS).contains c = true)
    (h2 : (li (Str.ofString "*/")).contains c = false ∨ ∃ c' r', q = c' :: r' ∧ c' ≠ c) (T : Trace x (i + 1) ds r) : Trace x i (.tuple [.str (Str.ofString "OP"), .str s, .int i] :: ds) r := by
  have hc' : c = 43 ∨ c = 45 ∨ c = 42 ∨ c = 47 ∨ c = 40 ∨ c = 41 ∨ c = 44 ∨ c = 61 ∨ c = 58 := by
    rw [li_signs] at hc
    simpa only [List.contains_cons, List.contains_nil, Bool.or_false, Bool.or_eq_true, beq_iff_eq] using hc
  have L : (occurrences LETTERS (Txt.item x i) 0 LETTERS.length 1).isEmpty = true := by rw [h.occ, no_letter (by omega)]; rfl
  have D : (occurrences DIGITS (Txt.item x i) 0 DIGITS.length 1).isEmpty = true := by rw [h.occ, no_digit (by omega)]; rfl
  have S : (occurrences SIGNS (Txt.item x i) 0 SIGNS.length 1).isEmpty = false := by rw [h.occ, hc]; rfl
  have e : Txt.slice x (some i) (some (i + 1)) = s := str_eq (by
    have := At.slice (w := [c]) (q := q) h
    rw [hs]
    exact this)
  refine .tok h.lt ⟨fun z => (by rw [L] at z; cases z), fun z => (by rw [D] at z; cases z), fun _ _ => ⟨?_, ?_, S⟩⟩ (e := i + 1) ?_ (by omega) T
  · rw [h.isS li_dot]
    simp
    omega
  · rw [h.isS li_quote]
    simp
    omega
  · have g : opTok x i (i + 1) = .ok (.tuple [.str (Str.ofString "OP"), .str s, .int i], i + 1) := by unfold opTok; rw [e]
    unfold tokenAt
    rw [if_pos L, if_pos D]
    rcases h2 with h2 | ⟨c1, r1, eq, hne⟩
    · rw [if_pos (by rw [h.occ, h2]; rfl)]
      exact g
    · by_cases z : (occurrences (Str.ofString "*/") (Txt.item x i) 0 (Str.ofString "*/").length 1).isEmpty = true
      · rw [if_pos z]; exact g
      · rw [if_neg z, if_neg ?_]
        · exact g
        · subst eq
          have e2 : Txt.slice x (some (i + 1)) (some (i + 1 + 1)) = ⟨#[c1]⟩ := str_eq (At.slice (w := [c1]) (q := r1) h.next)
          rw [e2, h.item, one_beq (k := c) rfl]
          simpa using hne
end Mine

end

theorem Mine.top_off_P6 : True := by
  w_top off
  trivial

section
open PySem PySem.W PyProof.Rows Builtin.Str
namespace Mine
abbrev Fig (c : Nat) : Prop := 48 ≤ c ∧ c ≤ 57
abbrev NoFig (c : Nat) : Prop := ¬ (48 ≤ c ∧ c ≤ 57)
/-! ## the exponent -/
section
variable {x : Str} {e i b : Int} {c : Nat} {q r : List Nat}
theorem pw_end (h : At x e []) : powerAt x e = some (Str.ofString "", 0, e) := by
  unfold powerAt
  rw [if_pos (by have := h.end_; omega)]
theorem pw_none (h : At x e (c :: r)) (hc : (li (Str.ofString "ED")).contains c = false) : powerAt x e = some (Str.ofString "", 0, e) := by
  unfold powerAt
  rw [if_neg (by have := h.lt; omega), if_pos (by rw [h.occ, hc]; rfl)]
theorem pf_none (h : At x b q) (hq : Then NoFig q) : powerFrom x i b = some (Str.ofString "", 0, i) := by
  have r : runOf x b DIGITS = b := by
    have := At.run (w := []) (q := q) (d := DIGITS) h (fun c hc => nomatch hc) (fun c r e => no_digit (hq c r e))
    simpa using this
  unfold powerFrom
  rw [if_pos r]
theorem pw_loose (h : At x e (c :: r)) (hc : (li (Str.ofString "ED")).contains c = true)
    (hr : r = [] ∨ ∃ c' r', r = c' :: r' ∧ (((li (Str.ofString "+-")).contains c' = true ∧ Then NoFig r') ∨ ((li (Str.ofString "+-")).contains c' = false ∧ NoFig c'))) : powerAt x e = some (Str.ofString "", 0, e) := by
  unfold powerAt
  rw [if_neg (by have := h.lt; omega), if_neg (by rw [h.occ, hc]; decide)]
  rcases hr with rfl | ⟨c', r', rfl, hr⟩
  · rw [if_neg h.next.end_]
    exact pf_none h.next (fun c r e => nomatch e)
  · rw [if_pos h.next.lt]
    rcases hr with ⟨h1, h2⟩ | ⟨h1, h2⟩
    · rw [if_neg (by rw [h.next.occ, h1]; decide)]
      exact pf_none h.next.next h2
    · rw [if_pos (by rw [h.next.occ, h1]; rfl)]
      exact pf_none h.next (fun c r e => by injection e with e1 _; subst e1; exact h2)
theorem num_run {D : Str} (h : At x i (li D ++ q)) (hd : NumText.AllDigits (li D)) (hq : Then NoFig q) : runOf x i DIGITS = i + (D.length : Int) := by
  rw [h.run (fun c hc => (digit_iff c).mpr (hd c hc)) (fun c r e => no_digit (hq c r e)), li_len]
theorem pf_val {P : Str} (h : At x b (li P ++ q)) (hp : NumText.AllDigits (li P)) (h0 : 0 < P.length) (hq : Then NoFig q) :
    powerFrom x i b = if 1000 < (P.length : Int) then none else if (Txt.item x (i + 1) == Str.ofString "-") = true then some (Txt.item x i, -val P, b + (P.length : Int)) else some (Txt.item x i, val P, b + (P.length : Int)) := by
  unfold powerFrom
  rw [num_run h hp hq, if_neg (by omega), h.sliceS]
  have e : b + (P.length : Int) - b = P.length := by omega
  rw [e]
theorem pw_num {l sg P : Str} (h : At x e (c :: (li sg ++ (li P ++ q)))) (hl : li l = [c]) (hc : (li (Str.ofString "ED")).contains c = true) (hs : sg = Str.ofString "" ∨ sg = Str.ofString "+" ∨ sg = Str.ofString "-")
    (hp : NumText.AllDigits (li P)) (h0 : 0 < P.length) (hq : Then NoFig q) :
    powerAt x e = if 1000 < (P.length : Int) then none else some (l, (if (sg == Str.ofString "-") = true then -val P else val P), e + 1 + (sg.length : Int) + (P.length : Int)) := by
  have hi : Txt.item x e = l := by rw [h.item]; exact str_eq hl.symm
  obtain ⟨p0, pr, hpe⟩ : ∃ p0 pr, li P = p0 :: pr := by
    cases hh : li P with
    | nil => rw [← li_len, hh] at h0; exact absurd h0 (Nat.lt_irrefl _)
    | cons a l => exact ⟨a, l, rfl⟩
  unfold powerAt
  rw [if_neg (by have := h.lt; omega), if_neg (by rw [h.occ, hc]; decide)]
  rcases hs with hs | hs | hs <;> subst hs
  · have h1 : At x (e + 1) (li P ++ q) := by have := h.next; rw [li_empty] at this; exact this
    have h1' : At x (e + 1) (p0 :: (pr ++ q)) := by rw [hpe] at h1; exact h1
    have pd : Fig p0 := hp p0 (by rw [hpe]; exact .head _)
    have n1 : (li (Str.ofString "+-")).contains p0 = false := by
      rw [li_pm]
      simp
      omega
    have n2 : (p0 == 45) = false := by simp; omega
    have n3 : (Str.ofString "" == Str.ofString "-") = false := by decide +kernel
    have n4 : (Str.ofString "").length = 0 := by decide +kernel
    rw [if_pos h1'.lt, if_pos (by rw [h1'.occ, n1]; rfl), pf_val h1 hp h0 hq, h1'.isS li_minus, hi, n2, n3, n4]
    simp
  · have h1 : At x (e + 1) (43 :: (li P ++ q)) := by have := h.next; rw [li_plus] at this; exact this
    have n1 : (li (Str.ofString "+-")).contains 43 = true := by decide +kernel
    have n3 : (Str.ofString "+" == Str.ofString "-") = false := by decide +kernel
    have n4 : (Str.ofString "+").length = 1 := by decide +kernel
    rw [if_pos h1.lt, if_neg (by rw [h1.occ, n1]; decide), pf_val h1.next hp h0 hq, h1.isS li_minus, hi, n3, n4]
    simp
  · have h1 : At x (e + 1) (45 :: (li P ++ q)) := by have := h.next; rw [li_minus] at this; exact this
    have n1 : (li (Str.ofString "+-")).contains 45 = true := by decide +kernel
    have n4 : (Str.ofString "-").length = 1 := by decide +kernel
    rw [if_pos h1.lt, if_neg (by rw [h1.occ, n1]; decide), pf_val h1.next hp h0 hq, h1.isS li_minus, hi, n4]
    simp
/-! ## no dotted word -/
theorem dots_end : ∀ y ∈ dots ++ truths, (li y).getLast? = some 46 ∧ 2 ≤ (li y).length := by decide +kernel
theorem no_dots {w : Str} (h : (li w).getLast? ≠ some 46 ∨ (li w).length < 2) : dotted w = Str.ofString "" := by
  have go : ∀ l : List Str, (∀ y ∈ l, y ∈ dots ++ truths) → (l.any fun y => y == w) = false := by
    intro l hl
    rw [List.any_eq_false]
    intro y hy
    have q := dots_end y (hl y hy)
    intro e
    have e' := eq_of_beq e
    subst e'
    rcases h with h | h
    · exact h q.1
    · omega
  exact (dotted_3 (go _ fun y hy => List.mem_append_left _ hy) (go _ fun y hy => List.mem_append_right _ hy)).symm
theorem dot_free {ls : List Nat} (h : At x e (46 :: (ls ++ q))) (hl : ∀ c ∈ ls, 65 ≤ c ∧ c ≤ 90) (hq : Then (fun c => ¬ (65 ≤ c ∧ c ≤ 90) ∧ c ≠ 46) q) : dottedAt x e = Str.ofString "" := by
  unfold dottedAt
  have R : runOf x (e + 1) LETTERS = e + 1 + (ls.length : Int) := h.next.run (fun c hc => (letter_iff c).mpr (hl c hc)) (fun c r e => no_letter (hq c r e).1)
  rw [R]
  apply no_dots
  cases q with
  | nil =>
    have h0 := h.pos
    have hs : li (Txt.slice x (some e) (some (e + 1 + (ls.length : Int) + 1))) = 46 :: ls := by
      rw [slice_li h0 (by omega), h.eq, List.append_nil]
      exact List.take_of_length_le (by rw [List.length_cons]; omega)
    rw [hs]
    cases hls : ls.reverse with
    | nil =>
      have : ls = [] := by simpa using hls
      subst this
      exact .inr (by decide)
    | cons z zs =>
      have e1 : ls = zs.reverse ++ [z] := by
        have := congrArg List.reverse hls
        simpa using this
      left
      rw [e1, ← List.cons_append, List.getLast?_append]
      simp
      have := hl z (by rw [e1]; simp)
      omega
  | cons c r =>
    have hs : li (Txt.slice x (some e) (some (e + (((46 :: ls) ++ [c]).length : Int)))) = (46 :: ls) ++ [c] := At.slice (q := r) (by
      have e2 : (46 :: ls) ++ [c] ++ r = 46 :: (ls ++ c :: r) := by simp
      rw [e2]; exact h)
    have e3 : e + (((46 :: ls) ++ [c]).length : Int) = e + 1 + (ls.length : Int) + 1 := by simp; omega
    rw [e3] at hs
    rw [hs]
    left
    rw [List.getLast?_append]
    simp
    exact (hq c r rfl).2
/-! ## the number -/
section
variable {D F : Str}
theorem num_no (h : At x i (li D ++ (c :: r))) (hd : NumText.AllDigits (li D)) (hc : NoFig c) (hp : c ≠ 46) : numberAt x i = numNoAt x i (i + (D.length : Int)) D := by
  have R := num_run h hd (fun c' r' e => by injection e with e1 _; subst e1; exact hc)
  unfold numberAt
  rw [if_neg (no_pt (fun e => by have e := e.1; rw [R, h.skipS.isS li_dot] at e; exact hp (by simpa using e))), R, h.sliceS]
theorem ok_no (h : At x i (li D ++ (c :: r))) (hd : NumText.AllDigits (li D)) (h0 : 0 < D.length) (hc : NoFig c) (hp : c ≠ 46) (hv : val D % 10 ≠ 0) : NumOk x i := by
  have R := num_run h hd (fun c' r' e => by injection e with e1 _; subst e1; exact hc)
  refine ⟨by rw [R]; omega, by rw [R, h.sliceS, app_empty]; exact hv, fun z => ?_⟩
  rw [R, h.skipS.isS li_dot] at z
  simp at z
  exact absurd z hp
theorem num_pt (h : At x i (li D ++ (46 :: (li F ++ q)))) (hd : NumText.AllDigits (li D)) (hf : NumText.AllDigits (li F)) (hq : Then NoFig q) (hdot : dottedAt x (i + (D.length : Int)) = Str.ofString "") :
    numberAt x i = numPtAt x i (i + (D.length : Int) + 1 + (F.length : Int)) D F := by
  have R := num_run h hd (fun c' r' e => by injection e with e1 _; subst e1; decide)
  have h2 := h.skipS
  have R2 := num_run h2.next hf hq
  unfold numberAt
  rw [if_pos (is_pt (by rw [R]; exact h2.lt) (by rw [R, h2.isS li_dot]; rfl) (by rw [R, hdot]; simp)), R, R2, h.sliceS, h2.next.sliceS]
theorem ok_pt (h : At x i (li D ++ (46 :: (li F ++ q)))) (hd : NumText.AllDigits (li D)) (hf : NumText.AllDigits (li F)) (h0 : 0 < D.length) (hq : Then NoFig q) (hv : val D % 10 ≠ 0) (hw : val (D ++ F) % 10 ≠ 0) : NumOk x i := by
  have R := num_run h hd (fun c' r' e => by injection e with e1 _; subst e1; decide)
  have h2 := h.skipS
  have R2 := num_run h2.next hf hq
  refine ⟨by rw [R]; omega, by rw [R, h.sliceS, app_empty]; exact hv, fun _ => ?_⟩
  rw [R, R2, h.sliceS, h2.next.sliceS]
  exact hw
end
theorem tr_num {d : Dat} {j : Int} {ds : List Dat} {res : Option Int} (h : At x i (c :: q)) (hc : Fig c) (ok : NumOk x i) (e : numberAt x i = .ok (d, j)) (hlt : i < j) (T : Trace x j ds res) : Trace x i (d :: ds) res := by
  have L : (occurrences LETTERS (Txt.item x i) 0 LETTERS.length 1).isEmpty = true := by rw [h.occ, no_letter (by omega)]; rfl
  have D : (occurrences DIGITS (Txt.item x i) 0 DIGITS.length 1).isEmpty = false := by rw [h.occ, (digit_iff c).mpr hc]; rfl
  refine .tok h.lt ⟨fun z => (by rw [L] at z; cases z), fun _ => ok, fun _ z => (by rw [D] at z; cases z)⟩ (e := j) ?_ hlt T
  unfold tokenAt
  rw [if_pos L, if_neg (by rw [D]; decide)]
  exact e
theorem tr_bad {j : Int} (h : At x i (c :: q)) (hc : Fig c) (ok : NumOk x i) (e : numberAt x i = .error j) : Trace x i [] (some j) := by
  have L : (occurrences LETTERS (Txt.item x i) 0 LETTERS.length 1).isEmpty = true := by rw [h.occ, no_letter (by omega)]; rfl
  have D : (occurrences DIGITS (Txt.item x i) 0 DIGITS.length 1).isEmpty = false := by rw [h.occ, (digit_iff c).mpr hc]; rfl
  refine .bad h.lt ⟨fun z => (by rw [L] at z; cases z), fun _ => ok, fun _ z => (by rw [D] at z; cases z)⟩ ?_
  unfold tokenAt
  rw [if_pos L, if_neg (by rw [D]; decide)]
  exact e
end
end Mine

end

theorem Mine.top_off_P7 : True := by
  w_top off
  trivial

section
open PySem PySem.W PyProof.Rows Builtin.Str
namespace Mine
theorem three (x : Int) : x.fmod 3 = 0 ∨ x.fmod 3 = 1 ∨ x.fmod 3 = 2 := by
  have h := fmod_bnd x 3 (by decide)
  omega
theorem six (x : Int) : x.fmod 6 = 0 ∨ x.fmod 6 = 1 ∨ x.fmod 6 = 2 ∨ x.fmod 6 = 3 ∨ x.fmod 6 = 4 ∨ x.fmod 6 = 5 := by
  have h := fmod_bnd x 6 (by decide)
  omega
theorem str_assoc (a b c : Str) : a ++ b ++ c = a ++ (b ++ c) := str_eq (by rw [li_app, li_app, li_app, li_app, List.append_assoc])
abbrev tokAt (k s : Str) (i : Int) : Dat := .tuple [.str k, .str s, .int i]
abbrev nameAt (s : Str) (i : Int) : Dat := tokAt (Str.ofString "NAME") s i
abbrev opAt (s : Str) (i : Int) : Dat := tokAt (Str.ofString "OP") s i
section
variable {x : Str} {i j : Int} {q : List Nat} {ds : List Dat} {res : Option Int}
theorem trN {s : Str} {w : List Nat} (hs : li s = w) (h : At x i (w ++ q)) (hw : w ≠ [] ∧ (∀ c ∈ w, 65 ≤ c ∧ c ≤ 90 ∨ 48 ≤ c ∧ c ≤ 57) ∧ (65 ≤ w.headD 0 ∧ w.headD 0 ≤ 90) ∧ w.length ≤ 6)
    (hq : Then (fun c => ¬ ((65 ≤ c ∧ c ≤ 90) ∨ (48 ≤ c ∧ c ≤ 57))) q) (hj : i + (w.length : Int) = j) (T : At x j q → Trace x j ds res) : Trace x i (nameAt s i :: ds) res := by
  subst hs
  obtain ⟨w0, w1, w2, w3⟩ := hw
  rw [li_len] at hj w3
  subst hj
  refine tr_name h ?_ w1 hq w3 (T h.skipS)
  cases e : li s with
  | nil => exact absurd e w0
  | cons c w => exact ⟨c, w, rfl, by rw [e] at w2; exact w2⟩
theorem trO {s : Str} {c : Nat} (hs : li s = [c]) (h : At x i (c :: q)) (hc : (li SIGNS).contains c = true) (h2 : (li (Str.ofString "*/")).contains c = false ∨ ∃ c' r', q = c' :: r' ∧ c' ≠ c) (hj : i + 1 = j) (T : At x j q → Trace x j ds res) :
    Trace x i (opAt s i :: ds) res := by
  subst hj
  exact tr_op hs h hc h2 (T h.next)
theorem tr_stop (h : At x i []) : Trace x i [] none := .stop h.end_
end
theorem then_nil {p : Nat → Prop} : Then p [] := fun _ _ e => nomatch e
theorem then_cons {p : Nat → Prop} {c : Nat} {r : List Nat} (h : p c) : Then p (c :: r) := fun _ _ e => by injection e with e1 _; subst e1; exact h
theorem tr_tail {x : Str} {j : Int} (h : At x j [42, 66]) : Trace x j [opAt (Str.ofString "*") j, nameAt (Str.ofString "B") (j + 1)] none :=
  trO (by decide +kernel) h (by decide +kernel) (.inr ⟨66, [], rfl, by decide⟩) rfl fun h => trN (w := [66]) (by decide +kernel) h (by decide) then_nil rfl fun h => tr_stop h
theorem headN_len (ns : List Int) : headN ns = ((headS ns).length : Int) := by
  unfold headN headS
  rcases three (lawAt ns 7) with h | h | h <;> rw [h] <;> decide +kernel
theorem tr_head (ns : List Int) {x : Str} {q : List Nat} {ds : List Dat} {res : Option Int} (h : At x 0 (li (headS ns) ++ q)) (T : At x (headN ns) q → Trace x (headN ns) ds res) : Trace x 0 (aheadD ns ++ ds) res := by
  have T' := fun a => T a
  unfold headS at h
  unfold headN at T'
  unfold aheadD headT
  rcases three (lawAt ns 7) with k | k | k <;> rw [k] at h T' ⊢
  · have e : li (Str.ofString "") = [] := li_empty
    have h' : At x 0 (li (Str.ofString "") ++ q) := h
    rw [e] at h'
    exact T' h'
  · have e : li (Str.ofString "A1=") = [65, 49, 61] := by decide +kernel
    have h' : At x 0 (li (Str.ofString "A1=") ++ q) := h
    rw [e] at h'
    exact trN (w := [65, 49]) (by decide +kernel) h' (by decide) (then_cons (by decide)) (j := 2) rfl fun h => trO (by decide +kernel) h (by decide +kernel) (.inl (by decide +kernel)) (j := 3) rfl T'
  · have e : li (Str.ofString "K,-") = [75, 44, 45] := by decide +kernel
    have h' : At x 0 (li (Str.ofString "K,-") ++ q) := h
    rw [e] at h'
    exact trN (w := [75]) (by decide +kernel) h' (by decide) (then_cons (by decide)) (j := 1) rfl fun h => trO (by decide +kernel) h (by decide +kernel) (.inl (by decide +kernel)) (j := 2) rfl
      fun h => trO (by decide +kernel) h (by decide +kernel) (.inl (by decide +kernel)) (j := 3) rfl T'
theorem tr_front {ns : List Int} {rest : Str} {ds : List Dat} {res : Option Int} (T : ∀ x, At x (headN ns) (li rest) → Trace x (headN ns) ds res) : Trace (headS ns ++ rest) 0 (aheadD ns ++ ds) res := by
  refine tr_head ns (q := li rest) ?_ (T _)
  rw [← li_app]
  exact At.zero _
theorem fact1 (ns : List Int) : Trace (headS ns) 0 (aheadD ns) none := by
  have := tr_head ns (x := headS ns) (q := []) (ds := []) (res := none) (by rw [List.append_nil]; exact At.zero _) (fun h => tr_stop h)
  rw [List.append_nil] at this
  exact this
abbrev shJ (j : Int) (t : Tk) : Dat := tokAt t.1 t.2.1 (t.2.2 + j)
theorem looseLi (ns : List Int) : ∃ w, li (looseS ns) = w ∧ (w = [69] ∨ w = [68] ∨ w = [69, 43] ∨ w = [68, 45] ∨ w = [69, 88] ∨ w = [69, 43, 65]) := by
  refine ⟨_, rfl, ?_⟩
  unfold looseS
  rcases six (lawAt ns 8) with k | k | k | k | k | k <;> rw [k] <;> decide +kernel
theorem tr_loose (ns : List Int) {x : Str} {j : Int} (h : At x j (li (looseS ns))) : Trace x j ((looseT ns).map (shJ j)) none := by
  unfold looseS at h
  unfold looseT
  rcases six (lawAt ns 8) with k | k | k | k | k | k <;> rw [k] at h ⊢
  · have e : li (Str.ofString "E") = [69] := by decide +kernel
    have h' : At x j (li (Str.ofString "E")) := h
    rw [e] at h'
    show Trace x j [nameAt (Str.ofString "E") (0 + j)] none
    rw [Int.zero_add]
    exact trN (w := [69]) (q := []) e h' (by decide) then_nil rfl fun h => tr_stop h
  · have e : li (Str.ofString "D") = [68] := by decide +kernel
    have h' : At x j (li (Str.ofString "D")) := h
    rw [e] at h'
    show Trace x j [nameAt (Str.ofString "D") (0 + j)] none
    rw [Int.zero_add]
    exact trN (w := [68]) (q := []) e h' (by decide) then_nil rfl fun h => tr_stop h
  · have e : li (Str.ofString "E+") = [69, 43] := by decide +kernel
    have h' : At x j (li (Str.ofString "E+")) := h
    rw [e] at h'
    show Trace x j [nameAt (Str.ofString "E") (0 + j), opAt (Str.ofString "+") (1 + j)] none
    rw [Int.zero_add]
    exact trN (w := [69]) (q := [43]) (by decide +kernel) h' (by decide) (then_cons (by decide)) (Int.add_comm _ _) fun h => trO (by decide +kernel) h (by decide +kernel) (.inl (by decide +kernel)) rfl fun h => tr_stop h
  · have e : li (Str.ofString "D-") = [68, 45] := by decide +kernel
    have h' : At x j (li (Str.ofString "D-")) := h
    rw [e] at h'
    show Trace x j [nameAt (Str.ofString "D") (0 + j), opAt (Str.ofString "-") (1 + j)] none
    rw [Int.zero_add]
    exact trN (w := [68]) (q := [45]) (by decide +kernel) h' (by decide) (then_cons (by decide)) (Int.add_comm _ _) fun h => trO (by decide +kernel) h (by decide +kernel) (.inl (by decide +kernel)) rfl fun h => tr_stop h
  · have e : li (Str.ofString "EX") = [69, 88] := by decide +kernel
    have h' : At x j (li (Str.ofString "EX")) := h
    rw [e] at h'
    show Trace x j [nameAt (Str.ofString "EX") (0 + j)] none
    rw [Int.zero_add]
    exact trN (w := [69, 88]) (q := []) e h' (by decide) then_nil rfl fun h => tr_stop h
  · have e : li (Str.ofString "E+A") = [69, 43, 65] := by decide +kernel
    have h' : At x j (li (Str.ofString "E+A")) := h
    rw [e] at h'
    show Trace x j [nameAt (Str.ofString "E") (0 + j), opAt (Str.ofString "+") (1 + j), nameAt (Str.ofString "A") (2 + j)] none
    rw [Int.zero_add]
    exact trN (w := [69]) (q := [43, 65]) (by decide +kernel) h' (by decide) (then_cons (by decide)) (Int.add_comm _ _) fun h => trO (i := 1 + j) (j := 2 + j) (by decide +kernel) h (by decide +kernel) (.inl (by decide +kernel)) (by omega)
      fun h => trN (w := [65]) (q := []) (by decide +kernel) h (by decide) then_nil rfl fun h => tr_stop h
theorem fact5 (ns : List Int) : Trace (looseS ns) 0 (restD ns) none := by
  have := tr_loose ns (At.zero (looseS ns))
  have e : (looseT ns).map (shJ 0) = restD ns := by
    unfold restD
    congr 1
    funext t
    unfold shJ tokD tokAt
    rw [Int.add_zero]
  rw [e] at this
  exact this
/-! ## a point and no exponent -/
theorem li_12 : li (Str.ofString "12.") = [49, 50, 46] := by decide +kernel
theorem figs12 : NumText.AllDigits (li (Str.ofString "12")) := by
  have e : li (Str.ofString "12") = [49, 50] := by decide +kernel
  rw [e]
  intro c hc
  simp at hc
  rcases hc with rfl | rfl <;> decide
theorem figs0 : NumText.AllDigits (li (Str.ofString "")) := by
  rw [li_empty]
  intro c hc
  cases hc
theorem fact6 (ns : List Int) : Trace (headS ns ++ Str.ofString "12." ++ looseS ns) 0 (aheadD ns ++ realD ns ++ (looseT ns).map (shD (headN ns))) none := by
  rw [str_assoc, List.append_assoc]
  refine tr_front fun x h => ?_
  obtain ⟨w, hw, hc⟩ := looseLi ns
  have e12 : li (Str.ofString "12") = [49, 50] := by decide +kernel
  have l12 : (Str.ofString "12").length = 2 := by decide +kernel
  have l0 : (Str.ofString "").length = 0 := by decide +kernel
  rw [li_app, li_12, hw] at h
  have h1 : At x (headN ns) (li (Str.ofString "12") ++ (46 :: (li (Str.ofString "") ++ w))) := by rw [e12, li_empty]; exact h
  have h2 := h1.skipS
  have h3 := h2.next
  rw [li_empty, List.nil_append, l12] at h3
  have v12 : val (Str.ofString "12") % 10 ≠ 0 := by decide +kernel
  have w12 : val (Str.ofString "12" ++ Str.ofString "") % 10 ≠ 0 := by decide +kernel
  have u12 : val (Str.ofString "12" ++ Str.ofString "") = 12 := by decide +kernel
  have hq : Then NoFig w := by rcases hc with h | h | h | h | h | h <;> subst h <;> exact then_cons (by decide)
  have hdot : dottedAt x (headN ns + ((Str.ofString "12").length : Int)) = Str.ofString "" := by
    rw [li_empty, List.nil_append] at h2
    rcases hc with h | h | h | h | h | h <;> subst h
    · exact dot_free (ls := [69]) (q := []) h2 (by decide) then_nil
    · exact dot_free (ls := [68]) (q := []) h2 (by decide) then_nil
    · exact dot_free (ls := [69]) (q := [43]) h2 (by decide) (then_cons (by decide))
    · exact dot_free (ls := [68]) (q := [45]) h2 (by decide) (then_cons (by decide))
    · exact dot_free (ls := [69, 88]) (q := []) h2 (by decide) then_nil
    · exact dot_free (ls := [69]) (q := [43, 65]) h2 (by decide) (then_cons (by decide))
  have hp : powerAt x (headN ns + 2 + 1) = some (Str.ofString "", 0, headN ns + 2 + 1) := by
    have h3' : At x (headN ns + 2 + 1) w := h3
    rcases hc with h | h | h | h | h | h <;> subst h
    · exact pw_loose h3' (by decide +kernel) (.inl rfl)
    · exact pw_loose h3' (by decide +kernel) (.inl rfl)
    · exact pw_loose h3' (by decide +kernel) (.inr ⟨_, _, rfl, .inl ⟨by decide +kernel, then_nil⟩⟩)
    · exact pw_loose h3' (by decide +kernel) (.inr ⟨_, _, rfl, .inl ⟨by decide +kernel, then_nil⟩⟩)
    · exact pw_loose h3' (by decide +kernel) (.inr ⟨_, _, rfl, .inr ⟨by decide +kernel, by decide⟩⟩)
    · exact pw_loose h3' (by decide +kernel) (.inr ⟨_, _, rfl, .inl ⟨by decide +kernel, then_cons (by decide)⟩⟩)
  refine tr_num (j := headN ns + 2 + 1) h (by decide) (ok_pt h1 figs12 figs0 (by rw [l12]; decide) hq v12 w12) ?_ (by omega) ?_
  · rw [num_pt h1 figs12 figs0 hq hdot, l12, l0]
    have e3 : headN ns + ((2 : Nat) : Int) + 1 + ((0 : Nat) : Int) = headN ns + 2 + 1 := by omega
    rw [e3, numPtAt_some hp]
    unfold numPt
    rw [if_neg (by omega)]
    unfold numTail
    rw [if_neg (by decide +kernel), u12, l0]
    rfl
  · have e : (looseT ns).map (shD (headN ns)) = (looseT ns).map (shJ (headN ns + 2 + 1)) := by
      congr 1
      funext t
      unfold shJ shD tokAt
      have : t.2.2 + headN ns + 3 = t.2.2 + (headN ns + 2 + 1) := by omega
      rw [this]
    rw [e]
    refine tr_loose ns ?_
    rw [hw]
    exact h3
end Mine

end

theorem Mine.top_off_P8 : True := by
  w_top off
  trivial

section
open PySem PySem.W PyProof.Rows Builtin.Str
namespace Mine
structure Num (x : Str) (i : Int) (t k : Str) (v : Dat) : Prop where
  first : ∃ c w, li t = c :: w ∧ Fig c
  ok : NumOk x i
  eq : numberAt x i = .ok (.tuple [.str k, v, .int i], i + (t.length : Int))
theorem trace_num {x t k : Str} {i : Int} {v : Dat} {q : List Nat} {ds : List Dat} {res : Option Int} (N : Num x i t k v) (h : At x i (li t ++ q)) (T : At x (i + (t.length : Int)) q → Trace x (i + (t.length : Int)) ds res) : Trace x i (.tuple [.str k, v, .int i] :: ds) res := by
  obtain ⟨c, w, e, hc⟩ := N.first
  have hl : 0 < t.length := by rw [← li_len, e]; exact Nat.succ_pos _
  have h1 : At x i (c :: (w ++ q)) := by rw [e] at h; exact h
  exact tr_num h1 hc N.ok N.eq (by omega) (T h.skipS)
theorem run_first {t : Str} {n : Int} (R : Run t n) : ∃ c w, li t = c :: w ∧ Fig c := by
  obtain ⟨c, w, e, _⟩ := R.head
  exact ⟨c, w, e, R.all c (by rw [e]; exact .head _)⟩
theorem run_pos {t : Str} {n : Int} (R : Run t n) : 0 < t.length := by
  obtain ⟨c, w, e, _⟩ := R.head
  rw [← li_len, e]; exact Nat.succ_pos _
theorem ee : (Str.ofString "" == Str.ofString "") = true := by decide +kernel
theorem ed : (Str.ofString "" == Str.ofString "D") = false := by decide +kernel
theorem l0 : (Str.ofString "").length = 0 := by decide +kernel
theorem val_empty (D : Str) : val (D ++ Str.ofString "") = val D := by rw [app_empty]
theorem val_zero (D : Str) : val (Str.ofString "0" ++ D) = val D := by
  unfold val
  rw [li_app, li_zero, dv_app]
  simp [NumText.digitsVal]
theorem num_s0 (ns : List Int) {x : Str} {i : Int} {r : List Nat} (h : At x i (li (text0 ns) ++ (42 :: r))) : Num x i (text0 ns) (Str.ofString "INT") (.int (val (text0 ns))) := by
  have lb := long_bnd ns
  have R := runText_run (lawAt ns 2) (n := longOf ns) lb.1
  have l : ((text0 ns).length : Int) = longOf ns := R.len
  refine ⟨run_first R, ok_no h R.all (run_pos R) (by decide) (by decide) R.mod, ?_⟩
  rw [num_no h R.all (by decide) (by decide), numNoAt_some (pw_none h.skipS (by decide +kernel))]
  unfold numNo
  rw [if_neg (by omega), if_pos ee]
theorem num_s1 (ns : List Int) {x : Str} {i : Int} {r : List Nat} (h : At x i (li (whole1 ns ++ Str.ofString "." ++ frac ns) ++ (42 :: r))) :
    Num x i (whole1 ns ++ Str.ofString "." ++ frac ns) (Str.ofString "REAL") (.tuple [.int (val (whole1 ns ++ frac ns)), .int (-((frac ns).length : Int))]) := by
  have lb := long_bnd ns
  have fb := fmod_bnd (lawAt ns 3) 5 (by decide)
  have RF : Run (frac ns) (fracN ns) := runText_run _ (by unfold fracN; omega)
  have lF := RF.len
  have w1 : 1 ≤ wholeN ns := by unfold wholeN; split <;> omega
  have RD : Run (whole1 ns) (wholeN ns) := runText_run _ w1
  have lD := RD.len
  have tot : ((whole1 ns).length : Int) + 1 + ((frac ns).length : Int) ≤ 1000 := by
    rw [lD]
    unfold wholeN
    unfold fracN at lF
    split <;> omega
  have hD : ∀ z, li (whole1 ns ++ Str.ofString "." ++ frac ns) ++ z = li (whole1 ns) ++ (46 :: (li (frac ns) ++ z)) := by
    intro z
    rw [li_app, li_app, li_dot]
    simp
  have h1 := h
  rw [hD] at h1
  obtain ⟨f0, fr, ef, hf0⟩ := run_first RF
  have hq : Then NoFig (42 :: r) := then_cons (by decide)
  have hdot : dottedAt x (i + ((whole1 ns).length : Int)) = Str.ofString "" :=
    dot_free (ls := []) (q := li (frac ns) ++ (42 :: r)) h1.skipS (fun c hc => nomatch hc) (by rw [ef]; exact then_cons ⟨by omega, by omega⟩)
  have h3 := h1.skipS.next.skipS
  have le : (((whole1 ns ++ Str.ofString "." ++ frac ns).length : Nat) : Int) = ((whole1 ns).length : Int) + 1 + ((frac ns).length : Int) := by
    rw [Str.length_append, Str.length_append, oned]
    omega
  obtain ⟨c, w, ec, hc⟩ := run_first RD
  refine ⟨⟨c, w ++ (46 :: li (frac ns)), ?_, hc⟩, ok_pt h1 RD.all RF.all (run_pos RD) hq RD.mod (RD.app RF).mod, ?_⟩
  · have := hD []
    rw [List.append_nil, List.append_nil, ec] at this
    exact this
  rw [num_pt h1 RD.all RF.all hq hdot, numPtAt_some (pw_none h3 (by decide +kernel))]
  unfold numPt
  rw [if_neg (by omega)]
  unfold numTail
  rw [if_neg (by rw [ed]; decide), le, Int.zero_sub]
  have e : i + ((whole1 ns).length : Int) + 1 + ((frac ns).length : Int) = i + (((whole1 ns).length : Int) + 1 + ((frac ns).length : Int)) := by omega
  rw [e]
theorem letter_is (ns : List Int) : ∃ c, li (letterOf ns) = [c] ∧ (c = 69 ∨ c = 68) ∧ (letterOf ns = Str.ofString "E" ∨ letterOf ns = Str.ofString "D") := by
  have h := fmod_bnd (lawAt ns 4) 2 (by decide)
  have : (lawAt ns 4).fmod 2 = 0 ∨ (lawAt ns 4).fmod 2 = 1 := by omega
  unfold letterOf
  rcases this with k | k <;> rw [k]
  · exact ⟨69, by decide +kernel, by decide, by decide +kernel⟩
  · exact ⟨68, by decide +kernel, by decide, by decide +kernel⟩
theorem sign_is (ns : List Int) : signOf ns = Str.ofString "" ∨ signOf ns = Str.ofString "+" ∨ signOf ns = Str.ofString "-" := by
  unfold signOf
  rcases three (lawAt ns 5) with k | k | k <;> rw [k] <;> decide +kernel
theorem sign_lenP {sg : Str} (h : sg = Str.ofString "" ∨ sg = Str.ofString "+" ∨ sg = Str.ofString "-") : sg.length ≤ 1 := by
  rcases h with h | h | h <;> subst h <;> decide +kernel
theorem sign_then {sg : Str} (h : sg = Str.ofString "" ∨ sg = Str.ofString "+" ∨ sg = Str.ofString "-") {p0 : Nat} {q : List Nat} (hp : Fig p0) : Then (fun c => ¬ (65 ≤ c ∧ c ≤ 90) ∧ c ≠ 46) (li sg ++ (p0 :: q)) := by
  rcases h with h | h | h <;> subst h
  · rw [li_empty]; exact then_cons ⟨by omega, by omega⟩
  · rw [li_plus]; exact then_cons ⟨by decide, by decide⟩
  · rw [li_minus]; exact then_cons ⟨by decide, by decide⟩
theorem tail_kind {i p e : Int} {D l : Str} (hl : l = Str.ofString "E" ∨ l = Str.ofString "D") :
    numTail i D (Str.ofString "") l p e = .ok (.tuple [.str (if (l == Str.ofString "E") = true then Str.ofString "REAL" else Str.ofString "DBLE"), .tuple [.int (val D), .int p], .int i], e) := by
  unfold numTail
  rcases hl with h | h <;> subst h
  · rw [if_neg (by decide +kernel), if_pos (by decide +kernel), val_empty]
  · rw [if_pos (by decide +kernel), if_neg (by decide +kernel), val_empty]
theorem num_end {k k' : Str} {v p p' i e e' : Int} (hk : k = k') (hp : p = p') (he : e = e') : (Except.ok (Dat.tuple [.str k, .tuple [.int v, .int p], .int i], e) : Except Int (Dat × Int)) = .ok (.tuple [.str k', .tuple [.int v, .int p'], .int i], e') := by
  subst hk; subst hp; subst he; rfl
theorem num_s2 (ns : List Int) {x : Str} {i : Int} {r : List Nat} (h : At x i (li (whole2 ns ++ tailS ns) ++ (42 :: r))) :
    Num x i (whole2 ns ++ tailS ns) (kind2 ns) (.tuple [.int (val (digs2 ns)), .int (value2 ns)]) := by
  obtain ⟨c, lc, cc, le⟩ := letter_is ns
  have sg := sign_is ns
  have sl := sign_lenP sg
  have pb := fmod_bnd (lawAt ns 6) 3 (by decide)
  have RP : Run (powS ns) (1 + (lawAt ns 6).fmod 3) := runText_run _ (by omega)
  have lP := RP.len
  have ll : (letterOf ns).length = 1 := by rw [← li_len, lc]; rfl
  have hED : (li (Str.ofString "ED")).contains c = true := by rcases cc with h | h <;> subst h <;> decide +kernel
  have hcf : NoFig c := by rcases cc with h | h <;> subst h <;> decide
  have hcd : c ≠ 46 := by rcases cc with h | h <;> subst h <;> decide
  have hne : (letterOf ns == Str.ofString "") = false := by rcases le with h | h <;> rw [h] <;> decide +kernel
  obtain ⟨p0, pr, ep, hp0⟩ := run_first RP
  have hq : Then NoFig (42 :: r) := then_cons (by decide)
  have lt : (tailS ns).length = 1 + (signOf ns).length + (powS ns).length := by
    unfold tailS
    rw [Str.length_append, Str.length_append, ll]
  have ht : ∀ z, li (tailS ns) ++ z = c :: (li (signOf ns) ++ (li (powS ns) ++ z)) := by
    intro z
    unfold tailS
    rw [li_app, li_app, lc]
    simp
  have lb := long_bnd ns
  have hP : ¬ (1000 < ((powS ns).length : Int)) := by omega
  by_cases big : 20 < longOf ns
  · have w1 : 1 ≤ bigN ns := by unfold bigN; split <;> omega
    have R := runText_run (lawAt ns 2) (n := bigN ns) w1
    have lR := R.len
    have tl : (tailN ns) = ((1 + (signOf ns).length + (powS ns).length : Nat) : Int) := by unfold tailN; rw [ll]
    have li2 := long_is ns
    have ew : whole2 ns = Str.ofString "0" ++ runText (lawAt ns 2) (bigN ns) := if_pos big
    have edg : digs2 ns = runText (lawAt ns 2) (bigN ns) := if_pos big
    generalize hG : runText (lawAt ns 2) (bigN ns) = G at *
    have lD : (Str.ofString "0" ++ G).length = 1 + G.length := by rw [Str.length_append, one0]
    have tot : ((Str.ofString "0" ++ G).length : Int) + ((1 + (signOf ns).length + (powS ns).length : Nat) : Int) ≤ 1000 := by
      rw [lD]
      have : (G.length : Int) = bigN ns := lR
      unfold bigN at this
      rw [tl] at this
      split at this <;> omega
    rw [ew, li_app, List.append_assoc, ht] at h
    have hall : NumText.AllDigits (li (Str.ofString "0" ++ G)) := by
      rw [li_app, li_zero]
      intro z hz
      rcases List.mem_append.mp hz with hz | hz
      · rw [List.mem_singleton.mp hz]; decide
      · exact R.all z hz
    have hpow := pw_num h.skipS lc hED sg RP.all (run_pos RP) hq
    rw [if_neg hP] at hpow
    rw [ew, edg]
    refine ⟨⟨48, li G ++ li (tailS ns), by rw [li_app, li_app, li_zero]; simp, by decide⟩, ok_no h hall (by rw [lD]; omega) hcf hcd (by rw [val_zero]; exact R.mod), ?_⟩
    rw [num_no h hall hcf hcd, numNoAt_some hpow]
    unfold numNo
    rw [if_neg (by omega), if_neg (by rw [hne]; decide), tail_kind le, val_zero]
    exact num_end rfl (Int.sub_zero _) (by
      have q : (Str.ofString "0" ++ G ++ tailS ns).length = (Str.ofString "0" ++ G).length + (tailS ns).length := Str.length_append _ _
      rw [q, lt]
      omega)
  · have R := runText_run (lawAt ns 2) (n := longOf ns) lb.1
    have lR := R.len
    have ew : whole2 ns = runText (lawAt ns 2) (longOf ns) ++ Str.ofString "." := if_neg big
    have edg : digs2 ns = runText (lawAt ns 2) (longOf ns) := if_neg big
    generalize hG : runText (lawAt ns 2) (longOf ns) = G at *
    have hx : ∀ z, li (G ++ Str.ofString "." ++ tailS ns) ++ z = li G ++ (46 :: (li (Str.ofString "") ++ (c :: (li (signOf ns) ++ (li (powS ns) ++ z))))) := by
      intro z
      rw [li_app, li_app, li_dot, List.append_assoc, ht, li_empty]
      simp
    rw [ew, hx] at h
    have h2 := h.skipS
    have h3 := h2.next.skipS
    have hqq : Then NoFig (c :: (li (signOf ns) ++ (li (powS ns) ++ (42 :: r)))) := then_cons hcf
    have hdot : dottedAt x (i + (G.length : Int)) = Str.ofString "" := by
      rw [li_empty] at h2
      refine dot_free (ls := [c]) (q := li (signOf ns) ++ (li (powS ns) ++ (42 :: r))) h2 (by intro z hz; rw [List.mem_singleton.mp hz]; rcases cc with h | h <;> subst h <;> decide) ?_
      rw [ep]
      exact sign_then sg hp0
    have hpow := pw_num h3 lc hED sg RP.all (run_pos RP) hq
    rw [if_neg hP] at hpow
    obtain ⟨g0, gr, eg, hg⟩ := run_first R
    rw [ew, edg]
    refine ⟨⟨g0, gr ++ (46 :: li (tailS ns)), by rw [li_app, li_app, li_dot, eg]; simp, hg⟩, ok_pt h R.all figs0 (run_pos R) hqq R.mod (by rw [val_empty]; exact R.mod), ?_⟩
    rw [num_pt h R.all figs0 hqq hdot, numPtAt_some hpow]
    unfold numPt
    rw [l0, if_neg (by rw [lR]; omega), tail_kind le]
    exact num_end rfl (Int.sub_zero _) (by
      have q : (G ++ Str.ofString "." ++ tailS ns).length = G.length + 1 + (tailS ns).length := by rw [Str.length_append, Str.length_append, oned]
      rw [q, lt]
      omega)
end Mine

end

theorem Mine.top_off_P9 : True := by
  w_top off
  trivial

section
open PySem PySem.W PyProof.Rows Builtin.Str
namespace Mine
theorem num_text (ns : List Int) {x : Str} {i : Int} {r : List Nat} (h : At x i (li (textN ns (sortOf ns)) ++ (42 :: r))) : Num x i (textN ns (sortOf ns)) (kindN ns (sortOf ns)) (valN ns (sortOf ns)) := by
  unfold sortOf at h ⊢
  rcases three (lawAt ns 0) with k | k | k <;> rw [k] at h ⊢
  · exact num_s0 ns h
  · exact num_s1 ns h
  · exact num_s2 ns h
theorem fact2 (ns : List Int) : Trace (headS ns ++ textN ns (sortOf ns) ++ Str.ofString "*B") 0 (toldD ns) none := by
  rw [str_assoc]
  refine tr_front fun x h => ?_
  have e : li (Str.ofString "*B") = [42, 66] := by decide +kernel
  rw [li_app, e] at h
  exact trace_num (num_text ns h) h fun h => tr_tail h
theorem li_pC : li (Str.ofString "+C") = [43, 67] := by decide +kernel
theorem li_5 : li (Str.ofString "5") = [53] := by decide +kernel
theorem li_1 : li (Str.ofString "1") = [49] := by decide +kernel
theorem figs5 : NumText.AllDigits (li (Str.ofString "5")) := by
  rw [li_5]; intro c hc; rw [List.mem_singleton.mp hc]; decide
theorem figs1 : NumText.AllDigits (li (Str.ofString "1")) := by
  rw [li_1]; intro c hc; rw [List.mem_singleton.mp hc]; decide
theorem len5 : (Str.ofString "5").length = 1 := by decide +kernel
theorem len1 : (Str.ofString "1").length = 1 := by decide +kernel
theorem val_dig (G : Str) : val (G ++ Str.ofString "5") % 10 ≠ 0 := by
  unfold val
  rw [li_app, li_5, dv_last]
  push_cast
  omega
theorem over0 {x G : Str} {i : Int} (R : Run G 1001) (h : At x i (li G ++ [43, 67])) : Trace x i [] (some i) := by
  obtain ⟨c, w, e, hc⟩ := run_first R
  have l := R.len
  have h1 : At x i (c :: (w ++ [43, 67])) := by rw [e] at h; exact h
  refine tr_bad h1 hc (ok_no h R.all (run_pos R) (by decide) (by decide) R.mod) ?_
  rw [num_no h R.all (by decide) (by decide), numNoAt_some (pw_none h.skipS (by decide +kernel))]
  unfold numNo
  rw [if_pos (by omega)]
theorem over1 {x G : Str} {i : Int} (R : Run G 999) (h : At x i (li G ++ (46 :: (li (Str.ofString "5") ++ [43, 67])))) : Trace x i [] (some i) := by
  obtain ⟨c, w, e, hc⟩ := run_first R
  have l := R.len
  have h1 : At x i (c :: (w ++ (46 :: (li (Str.ofString "5") ++ [43, 67])))) := by rw [e] at h; exact h
  have hq : Then NoFig [43, 67] := then_cons (by decide)
  have hdot : dottedAt x (i + (G.length : Int)) = Str.ofString "" := by
    have := h.skipS
    rw [li_5] at this
    exact dot_free (ls := []) (q := [53, 43, 67]) this (fun c hc => nomatch hc) (then_cons ⟨by decide, by decide⟩)
  refine tr_bad h1 hc (ok_pt h R.all figs5 (run_pos R) hq R.mod (val_dig G)) ?_
  rw [num_pt h R.all figs5 hq hdot, numPtAt_some (pw_none h.skipS.next.skipS (by decide +kernel))]
  unfold numPt
  rw [if_pos (by rw [len5]; omega)]
theorem over2 {x G : Str} {i : Int} (R : Run G 1001) (h : At x i (li G ++ (69 :: (li (Str.ofString "") ++ (li (Str.ofString "1") ++ [43, 67]))))) : Trace x i [] (some i) := by
  obtain ⟨c, w, e, hc⟩ := run_first R
  have l := R.len
  have h1 : At x i (c :: (w ++ (69 :: (li (Str.ofString "") ++ (li (Str.ofString "1") ++ [43, 67]))))) := by rw [e] at h; exact h
  refine tr_bad h1 hc (ok_no h R.all (run_pos R) (by decide) (by decide) R.mod) ?_
  have hpow := pw_num (l := Str.ofString "E") (sg := Str.ofString "") (P := Str.ofString "1") h.skipS (by decide +kernel) (by decide +kernel) (.inl rfl) figs1 (by rw [len1]; decide) (then_cons (by decide))
  rw [if_neg (by rw [len1]; decide)] at hpow
  rw [num_no h R.all (by decide) (by decide), numNoAt_some hpow]
  unfold numNo
  rw [if_pos (by rw [len1, l0]; omega)]
theorem fact3 (ns : List Int) : ∃ ds, Trace (headS ns ++ overS ns ++ Str.ofString "+C") 0 ds (some (headN ns)) := by
  refine ⟨aheadD ns ++ [], ?_⟩
  rw [str_assoc]
  refine tr_front fun x h => ?_
  rw [li_app, li_pC] at h
  unfold overS sortOf at h
  rcases three (lawAt ns 0) with k | k | k <;> rw [k] at h
  · have em : (1001 - 2 * Int.fmod 0 2 : Int) = 1001 := by decide
    rw [em] at h
    have R := runText_run (lawAt ns 2) (n := 1001) (by decide)
    generalize runText (lawAt ns 2) 1001 = G at h R
    have h' : At x (headN ns) (li (G ++ Str.ofString "") ++ [43, 67]) := h
    rw [app_empty] at h'
    exact over0 R h'
  · have em : (1001 - 2 * Int.fmod 1 2 : Int) = 999 := by decide
    rw [em] at h
    have R := runText_run (lawAt ns 2) (n := 999) (by decide)
    generalize runText (lawAt ns 2) 999 = G at h R
    have h' : At x (headN ns) (li (G ++ Str.ofString ".5") ++ [43, 67]) := h
    have e : li (Str.ofString ".5") = [46, 53] := by decide +kernel
    rw [li_app, e, List.append_assoc] at h'
    refine over1 R ?_
    rw [li_5]
    exact h'
  · have em : (1001 - 2 * Int.fmod 2 2 : Int) = 1001 := by decide
    rw [em] at h
    have R := runText_run (lawAt ns 2) (n := 1001) (by decide)
    generalize runText (lawAt ns 2) 1001 = G at h R
    have h' : At x (headN ns) (li (G ++ Str.ofString "E1") ++ [43, 67]) := h
    have e : li (Str.ofString "E1") = [69, 49] := by decide +kernel
    rw [li_app, e, List.append_assoc] at h'
    refine over2 R ?_
    rw [li_empty, li_1]
    exact h'
theorem sign2 (ns : List Int) : Txt.item (Str.ofString "+-") ((sortOf ns).fmod 2) = Str.ofString "" ∨ Txt.item (Str.ofString "+-") ((sortOf ns).fmod 2) = Str.ofString "+" ∨ Txt.item (Str.ofString "+-") ((sortOf ns).fmod 2) = Str.ofString "-" := by
  have h := fmod_bnd (sortOf ns) 2 (by decide)
  have : (sortOf ns).fmod 2 = 0 ∨ (sortOf ns).fmod 2 = 1 := by omega
  rcases this with h | h <;> rw [h] <;> decide +kernel
theorem over4 {x P sg : Str} {i : Int} (R : Run P 1001) (hs : sg = Str.ofString "" ∨ sg = Str.ofString "+" ∨ sg = Str.ofString "-") (h : At x i ([50, 46, 53, 68] ++ (li sg ++ li P))) : Trace x i [] (some (i + 3)) := by
  have e2 : li (Str.ofString "2") = [50] := by decide +kernel
  have f2 : NumText.AllDigits (li (Str.ofString "2")) := by rw [e2]; intro c hc; rw [List.mem_singleton.mp hc]; decide
  have n2 : (Str.ofString "2").length = 1 := by decide +kernel
  have l := R.len
  have h1 : At x i (li (Str.ofString "2") ++ (46 :: (li (Str.ofString "5") ++ (68 :: (li sg ++ (li P ++ [])))))) := by
    rw [e2, li_5, List.append_nil]
    exact h
  have hq : Then NoFig (68 :: (li sg ++ (li P ++ []))) := then_cons (by decide)
  have hdot : dottedAt x (i + ((Str.ofString "2").length : Int)) = Str.ofString "" := by
    have := h1.skipS
    rw [li_5] at this
    exact dot_free (ls := []) (q := 53 :: (68 :: (li sg ++ (li P ++ [])))) this (fun c hc => nomatch hc) (then_cons ⟨by decide, by decide⟩)
  have hpow := pw_num (l := Str.ofString "D") h1.skipS.next.skipS (by decide +kernel) (by decide +kernel) hs R.all (run_pos R) then_nil
  rw [if_pos (by omega)] at hpow
  refine tr_bad h (by decide) (ok_pt h1 f2 figs5 (by rw [n2]; decide) hq (by decide +kernel) (by decide +kernel)) ?_
  rw [num_pt h1 f2 figs5 hq hdot]
  refine numPtAt_none ⟨?_, hpow⟩
  rw [n2, len5]
  omega
theorem fact4 (ns : List Int) : ∃ ds, Trace (headS ns ++ Str.ofString "2.5D" ++ Txt.item (Str.ofString "+-") ((sortOf ns).fmod 2) ++ runText 5 1001) 0 ds (some (headN ns + 3)) := by
  refine ⟨aheadD ns ++ [], ?_⟩
  have R := runText_run 5 (n := 1001) (by decide)
  have s2 := sign2 ns
  generalize runText 5 1001 = P at R ⊢
  generalize Txt.item (Str.ofString "+-") ((sortOf ns).fmod 2) = sg at s2 ⊢
  rw [str_assoc, str_assoc]
  refine tr_front fun x h => ?_
  have e : li (Str.ofString "2.5D") = [50, 46, 53, 68] := by decide +kernel
  rw [li_app, li_app, e] at h
  exact over4 R s2 h
/-! ## sizes and kinds -/
theorem text_len (ns : List Int) : (textN ns (sortOf ns)).length ≤ 1010 := by
  have lb := long_bnd ns
  unfold sortOf
  rcases three (lawAt ns 0) with k | k | k <;> rw [k]
  · show (text0 ns).length ≤ 1010
    have l : ((text0 ns).length : Int) = longOf ns := (runText_run (lawAt ns 2) (n := longOf ns) lb.1).len
    omega
  · show (whole1 ns ++ Str.ofString "." ++ frac ns).length ≤ 1010
    have fb := fmod_bnd (lawAt ns 3) 5 (by decide)
    have lF : ((frac ns).length : Int) = fracN ns := (runText_run _ (by unfold fracN; omega)).len
    have w1 : 1 ≤ wholeN ns := by unfold wholeN; split <;> omega
    have lD : ((whole1 ns).length : Int) = wholeN ns := (runText_run _ w1).len
    have w2 : wholeN ns ≤ 1000 := by unfold wholeN; split <;> omega
    rw [Str.length_append, Str.length_append, oned]
    unfold fracN at lF
    omega
  · show (whole2 ns ++ tailS ns).length ≤ 1010
    have pb := fmod_bnd (lawAt ns 6) 3 (by decide)
    have lP : ((powS ns).length : Int) = 1 + (lawAt ns 6).fmod 3 := (runText_run _ (by omega)).len
    obtain ⟨c, lc, _⟩ := letter_is ns
    have ll : (letterOf ns).length = 1 := by rw [← li_len, lc]; rfl
    have sl := sign_lenP (sign_is ns)
    have lt : (tailS ns).length = 1 + (signOf ns).length + (powS ns).length := by
      unfold tailS
      rw [Str.length_append, Str.length_append, ll]
    have lw : (whole2 ns).length ≤ 1001 := by
      by_cases big : 20 < longOf ns
      · have ew : whole2 ns = Str.ofString "0" ++ runText (lawAt ns 2) (bigN ns) := if_pos big
        have w1 : 1 ≤ bigN ns := by unfold bigN; split <;> omega
        have l := (runText_run (lawAt ns 2) (n := bigN ns) w1).len
        have tz : 0 ≤ tailN ns := Int.natCast_nonneg _
        have w2 : bigN ns ≤ 1000 := by unfold bigN; split <;> omega
        rw [ew, Str.length_append, one0]
        omega
      · have ew : whole2 ns = runText (lawAt ns 2) (longOf ns) ++ Str.ofString "." := if_neg big
        have l := (runText_run (lawAt ns 2) (n := longOf ns) lb.1).len
        rw [ew, Str.length_append, oned]
        omega
    rw [Str.length_append, lt]
    omega
theorem ok_tok {k s : Str} {i : Int} (hk : PyData.strOk k = true) (hs : PyData.strOk s = true) : kqdOk 8 (tokAt k s i) = true := by
  show (PyData.strOk k && (PyData.strOk s && (true && true))) = true
  rw [hk, hs]; rfl
theorem head_toks (ns : List Int) : (∀ t ∈ headT ns, PyData.strOk t.1 = true ∧ PyData.strOk t.2.1 = true) ∧ (headT ns).length ≤ 3 := by
  unfold headT
  rcases three (lawAt ns 7) with k | k | k <;> rw [k] <;> decide +kernel
theorem loose_toks (ns : List Int) : (∀ t ∈ looseT ns, PyData.strOk t.1 = true ∧ PyData.strOk t.2.1 = true) ∧ (looseT ns).length ≤ 3 := by
  unfold looseT
  rcases six (lawAt ns 8) with k | k | k | k | k | k <;> rw [k] <;> decide +kernel
theorem ok_ahead (ns : List Int) : ∀ d ∈ aheadD ns, kqdOk 8 d = true := by
  intro d hd
  obtain ⟨t, ht, rfl⟩ := List.mem_map.mp hd
  have := (head_toks ns).1 t ht
  exact ok_tok this.1 this.2
theorem ok_shift (ns : List Int) (k : Int) : ∀ d ∈ (looseT ns).map (shD k), kqdOk 8 d = true := by
  intro d hd
  obtain ⟨t, ht, rfl⟩ := List.mem_map.mp hd
  have := (loose_toks ns).1 t ht
  exact ok_tok this.1 this.2
theorem ok_kind (ns : List Int) : PyData.strOk (kindN ns (sortOf ns)) = true := by
  unfold sortOf
  rcases three (lawAt ns 0) with k | k | k <;> rw [k]
  · show PyData.strOk (Str.ofString "INT") = true
    decide +kernel
  · show PyData.strOk (Str.ofString "REAL") = true
    decide +kernel
  · show PyData.strOk (kind2 ns) = true
    unfold kind2
    split <;> decide +kernel
theorem ok_val (ns : List Int) : kqdOk 7 (valN ns (sortOf ns)) = true := by
  unfold sortOf
  rcases three (lawAt ns 0) with k | k | k <;> rw [k] <;> rfl
theorem ok_told (ns : List Int) : ∀ d ∈ toldD ns, kqdOk 8 d = true := by
  intro d hd
  rcases List.mem_append.mp hd with hd | hd
  · exact ok_ahead ns d hd
  · simp only [List.mem_cons, List.not_mem_nil, or_false] at hd
    rcases hd with rfl | rfl | rfl
    · show (PyData.strOk (kindN ns (sortOf ns)) && (kqdOk 7 (valN ns (sortOf ns)) && (true && true))) = true
      rw [ok_kind, ok_val]; rfl
    · exact ok_tok (by decide +kernel) (by decide +kernel)
    · exact ok_tok (by decide +kernel) (by decide +kernel)
theorem ok_six (ns : List Int) : ∀ d ∈ aheadD ns ++ realD ns ++ (looseT ns).map (shD (headN ns)), kqdOk 8 d = true := by
  intro d hd
  rcases List.mem_append.mp hd with hd | hd
  · rcases List.mem_append.mp hd with hd | hd
    · exact ok_ahead ns d hd
    · rw [List.mem_singleton.mp hd]
      show (PyData.strOk (Str.ofString "REAL") && (kqdOk 7 (.tuple [.int 12, .int 0]) && (true && true))) = true
      decide +kernel
  · exact ok_shift ns _ d hd
theorem lawFacts (ns : List Int) : LawFacts ns where
  hlen := by
    unfold headS
    rcases three (lawAt ns 7) with k | k | k <;> rw [k] <;> decide +kernel
  tlen := text_len ns
  llen := by
    unfold looseS
    rcases six (lawAt ns 8) with k | k | k | k | k | k <;> rw [k] <;> decide +kernel
  alen := by
    unfold aheadD
    rw [List.length_map]
    exact (head_toks ns).2
  rlen := (loose_toks ns).2
  ok2 := ok_told ns
  ok6 := ok_six ns
  t1 := fact1 ns
  t2 := fact2 ns
  t3 := fact3 ns
  t4 := fact4 ns
  t5 := fact5 ns
  t6 := fact6 ns
end Mine

end

theorem Mine.top_off_P10 : True := by
  w_top off
  trivial

section
open PySem PySem.W PyProof.Rows
namespace Mine
-- no twins of the program's constants (4.7 MB): the kernel's own decision
local macro_rules | `(tactic| k_qdec) => `(tactic| decide +kernel)
local macro_rules | `(tactic| ktr_unf) => `(tactic| ((show Sub _ _); (try unfold ledgerOf); repeat (first | with_reducible exact Sub.refl | with_reducible exact Sub.left | with_reducible refine Sub.tail ?_ | with_reducible refine Sub.right ?_)))
local macro_rules | `(tactic| ktr_call $x:term 13) => `(tactic| (k_dflt ((with_reducible rename News _ _ _ _ => kN9); (refine' Mine.says_useS $x ?k1 ?k2 ?k3 kN9 ?k5 ?kK ?kq ?kd ?ku ?_); (case kq => exact mem_hd kN9); (case k1 => k_asm); (case k2 => k_asm); (case k3 => k_asm); (case k5 => k_asm); (case kK => first | exact rfl | assumption); (try (case kp => ((repeat' (refine And.intro ?_ ?_)) <;> omega))); (case kd => ktr_room); (case ku => ktr_units); intro t9 h9 tk9 F9 N9 g9; (try (have g8 := g9.1; have g7 := g9.2; clear g9)); (try k_sweep); (try dsimp only); (try k_fold))))
local macro_rules | `(tactic| ktr_call $x:term 14) => `(tactic| (k_dflt ((with_reducible rename News _ _ _ _ => kN9); (refine' Mine.says_useS $x ?k1 ?k2 ?k3 kN9 ?k5 ?kK ?kq ?kd ?ku ?_); (case kq => trivial); (case k1 => k_asm); (case k2 => k_asm); (case k3 => k_asm); (case k5 => k_asm); (case kK => first | exact rfl | assumption); (try (case kp => ((repeat' (refine And.intro ?_ ?_)) <;> omega))); (case kd => ktr_room); (case ku => ktr_units); intro t9 h9 tk9 F9 N9 g9; (try (have g8 := g9.1; have g7 := g9.2; clear g9)); (try k_sweep); (try dsimp only); (try k_fold))))
local macro_rules | `(tactic| ktr_call $x:term 15) => `(tactic| ((with_reducible rename News _ _ _ _ => kN9); (have kN8 := news_none kN9); clear kN9))
local macro_rules | `(tactic| ktr_call $x:term 6) => `(tactic| (k_dflt (refine' says_use $x ?k1 ?k2 ?k3 ?k4 ?k5 ?kK ?kq ?kd ?ku ?kb ?_); (case k1 => k_asm); (case k2 => k_asm); (case k3 => k_asm); (case k4 => k_asm); (case k5 => k_asm); (case kK => first | exact rfl | assumption); (try (case kp => ((repeat' (refine And.intro ?_ ?_)) <;> first | assumption | omega | k_extra "size"))); (case kq => first | trivial | assumption); (case kd => ktr_room); (case ku => ktr_units); (case kb => exact fun _ _ _ _ _ hF => hF.elim); (intro r9 tl9 h9 tk9 F9 N9 o9; (obtain ⟨D9, n9, u1, u2, V9, m9, e9, v9, tu9⟩ := o9); subst e9; (have N9 := led_take N9 m9); simp only [List.cons_append, List.nil_append, List.append_assoc] at N9; (try k_sweep); (try dsimp only); (try k_fold))))
local macro_rules | `(tactic| ktr_call $x:term 7) => `(tactic| (k_dflt (refine' says0_use $x ?k1 ?k2 ?k3 ?k4 ?k5 ?kK ?kq ?kd ?ku ?_); (case k1 => k_asm); (case k2 => k_asm); (case k3 => k_asm); (case k4 => k_asm); (case k5 => k_asm); (case kK => first | exact rfl | assumption); (case kq => trivial); (case kd => ktr_room); (case ku => ktr_units); (intro r9 tl9 h9 tk9 F9 N9 o9; (obtain ⟨a9, vs9, n9, m9, e9, v9⟩ := o9); subst e9; (have N9 := led_take N9 m9); simp only [List.cons_append, List.nil_append, List.append_assoc] at N9; (try k_sweep); (try dsimp only); (try k_fold))))
local macro_rules | `(tactic| ktr_call $x:term 8) => `(tactic| (k_dflt (refine' says0_use $x ?k1 ?k2 ?k3 ?k4 ?k5 ?kK ?kq ?kd ?ku ?_); (case k1 => k_asm); (case k2 => k_asm); (case k3 => k_asm); (case k4 => k_asm); (case k5 => k_asm); (case kK => first | exact rfl | assumption); (case kq => trivial); (case kd => ktr_room); (case ku => ktr_units); (intro r9 tl9 h9 tk9 F9 N9 o9; (obtain ⟨e8, ⟨t9, e9⟩, g9⟩ := o9); subst e8; subst e9; simp only [List.nil_append] at N9; (try k_sweep); (try dsimp only); (try k_fold))))
local macro_rules | `(tactic| ktr_call $x:term 9) => `(tactic| (k_dflt ((with_reducible rename News _ _ _ _ => kN9); (with_reducible rename DatIn _ _ (valN _ _) => kv9); (have kv8 := DatIn.mono (show Sub _ (ledgerOf kN9) from by ktr_unf) kv9); (k_dflt (refine' add_dat ?zF kN9 ?zma ?zDa ?zsa ?zmb ?zDb ?zsb ?zsz ?_)); (case zF => k_asm); (case zma => k_mem); (case zmb => k_mem); (case zDa => with_reducible assumption); (case' zDb => first | (with_reducible assumption) | exact (show DatAll (ledgerOf kN9) _ _ from by (unfold ledgerOf; kqd_all))); (case zsa => ktr_unf); (case zsb => ktr_unf); (case zsz => ((try simp only [List.length_cons, List.length_nil, List.length_append, List.length_map]); omega)); (clear kv8); intro D9 h' F' N' dA; (try k_sweep))))
local macro_rules | `(tactic| ktr_call $x:term 10) => `(tactic| (k_dflt ((with_reducible rename News _ _ _ _ => kN9); (k_dflt (refine' ne_same kN9 ?zma ?zDa ?zsa ?zmb ?zDb ?zsb ?ze ?zok ?zu ?_)); (case zma => k_mem); (case zmb => k_mem); (case zDa => with_reducible assumption); (case zDb => with_reducible assumption); (case zsa => ktr_unf); (case zsb => ktr_unf); (case ze => rfl); (case zok => exact $x); (case zu => ke_room); k_whole)))
local macro_rules | `(tactic| ktr_call $x:term 11) => `(tactic| (k_dflt ((with_reducible rename News _ _ _ _ => kN9); (with_reducible rename DatAll _ _ (restD _) => kd9); (have ks9 := sub_of kd9 (ledgerOf kN9) (by ktr_unf)); (refine' LCg.CompSrc.ledger ?zr ?zF kN9 ?zm ?zs ?_; (case zr => rfl); (case zF => k_asm); (case zm => k_mem); (case zs => ((have kz9 : (1000 : Nat) ≤ sizeLine := (by decide)); (have kl9 := kd9.length); rw [List.size_toArray]; (unfold restD at kl9); (rw [List.length_map] at kl9); omega)); intro g9; (refine' dat_rest (restF $x) ?zt ?zf; (case' zt => (intro i v I oI C oC D m₂ ys news' h tk E' hv hC hx F N off ne sub; (obtain ⟨a, k, s, p, t1, t2, t3, nn, e, hm, hf⟩ := tok_at kd9 hv); subst e; (have N := tok_ledger N (ks9 _ hm) sub); simp only [List.cons_append, List.nil_append, List.append_assoc] at N; (try dsimp only))); (case' zf => (intro ys news' sub hd; (refine' fin_tokA kd9 hd sub ?_); intro D9 h9 tk9 F9 N9 dA; simp only [List.cons_append, List.nil_append, List.append_assoc] at N9; (try k_sweep); (try dsimp only); (try k_fold)))))))) 
local macro_rules | `(tactic| ktr_call $x:term 12) => `(tactic| (k_dflt (refine' tok_end ?zF ?zN ?zn ?zl ?zo ?zS ?zs ?zf; (case zs => with_reducible assumption); (case zF => k_asm); (case zN => k_asm); (case zn => ktr_unf); (case zl => assumption); (case zo => assumption); (case zf => assumption); (case zS => exact .inr ⟨_, by k_mem, rfl, _, rfl⟩))))
local macro_rules | `(tactic| walk_at "CompEnd") => `(tactic| (k_extra "end9"))
local macro_rules | `(tactic| walk_at "eval ListComp") => `(tactic| (k_here; (k_dflt (refine LCg.ListComp_U (F₀ := by k_asm) (by with_unfolding_all rfl) (by decide) (by rfl) (by decide) (by rfl) ?_))))
local macro_rules | `(tactic| walk_at "UnrEnd") => `(tactic| (k_dflt ((with_reducible rename News _ _ _ _ => kN9); (refine' unr_end ?zF kN9 ?zl ?_; (case zF => k_asm); (case zl => assumption)))))
local macro_rules | `(tactic| walk_at "LoopStep3") => `(tactic| (k_dflt ((with_reducible rename News _ _ _ _ => kN9); (with_reducible rename HasM _ _ => kM9); (refine' LoopStep3.next (LoopStep2.intro ?zF kN9 rfl ?zR); (case zF => k_asm); (case zR => exact kM9)))))
local macro_rules | `(tactic| walk_at "Unr") => `(tactic| (k_dflt (refine' unr_inv (HasM _) Small ?zR ?zG ?zT ?zD; (case zR => exact rfl); (case zG => (intro i9 v9 hv9; exact small_at (by repeat (first | exact small_nil | refine small_cons (by omega) (by omega) ?_)) hv9)); (case' zT => (intro m9 nx9 v9 h9 tk9 own9 hm9 hs9 F9 N9; (obtain ⟨z9, t9, e9, hz8, hz9⟩ := hs9); subst e9; (try k_sweep); (try k_fold))); (case' zD => (intro m9 nx9 h9 tk9 hm9 F9 N9; (try k_sweep); (try k_fold))))))
local macro_rules | `(tactic| walk_at "eval Name") => `(tactic| (k_here; (with_reducible show wpAny _ _ (eval (Expr.Name (Str.ofString "m") _) _) _ _ _); (with_reducible rename HasM _ _ => kM9); k_dflt (refine' nameX_L ?F ?v ?_ ?a ?b; (case F => k_asm); (case a => rfl); (case b => rfl); (case v => exact kM9); k_whole)))
local macro_rules | `(tactic| walk_at "CompSrc") => `(tactic| (k_here; k_extra "src9"))
local macro_rules | `(tactic| walk_at "compareOp NotEq int int") => `(tactic| (k_here; k_dflt (refine ne_int_same (by rfl) ?_)))
local macro_rules | `(tactic| walk_at "compareOp Eq str str") => `(tactic| (k_here; k_dflt (refine eq_str_same (by first | exact show00E | exact show00D) ?_)))
local macro_rules | `(tactic| walk_at "compareOp NotEq str str") => `(tactic| (k_here; k_dflt (refine ne_str_same (by rfl) ?_)))
local macro_rules | `(tactic| walk_at "compareOp NotEq ref ref") => `(tactic| (k_here; k_extra "ne9"))
local macro_rules | `(tactic| walk_at "binaryOp Add ref ref") => `(tactic| (k_here; k_extra "add9"))
local macro_rules | `(tactic| walk_at "eval Call") => `(tactic| (k_here; k_dflt (refine Call_ ?_)))
set_option maxRecDepth 100000 in
set_option maxHeartbeats 8000000 in
theorem law_walk (lf : ∀ ns, LawFacts ns) : PySem.Challenge.rw_pf0117_01.Holds := hd (by
  k_go0
  all_goals try k_fold
  (with_reducible rename IntsAre _ _ => hI9)
  (with_reducible rename ¬ ((63 : Nat) : Int) < _ => hlen9)
  rename List Int => ns
  have LF := lf ns
  clear lf
  have hlen : ns.length ≤ 63 := by omega
  have b0 := fmod_bnd (lawAt ns 0) 3 (by decide)
  obtain ⟨z5, hz5, H5, H6⟩ := five LF
  have b9 := fmod_bnd (lawAt ns 9) 100000 (by decide)
  have b10 := fmod_bnd (lawAt ns 10) 40 (by decide)
  have c5 : (Str.ofString "E").length = 1 := by decide +kernel
  have c6 : (Str.ofString "D").length = 1 := by decide +kernel
  have b2 := fmod_bnd ((lawAt ns 0).fmod 3) 2 (by decide)
  have hl8 := over_lit ns
  have hl1 := LF.hlen
  have hl2 := LF.tlen
  have hl3 := LF.llen
  have hl4 := over_len ns
  have hl5 := sign_len ns
  have hl6 := LF.alen
  have hl7 := LF.rlen
  have c1 : (Str.ofString "*B").length = 2 := by decide +kernel
  have c2 : (Str.ofString "+C").length = 2 := by decide +kernel
  have c3 : (Str.ofString "2.5D").length = 4 := by decide +kernel
  have c4 : (Str.ofString "12.").length = 3 := by decide +kernel
  k_with_none
  k_with "call ref cons nil" => first
    | ((with_reducible show wpAny _ _ (call (Value.ref 146) [_, Value.int 9 _]) _ _ _); ktr_call hI9 15; ktr_call (law_at_says _ _ _ _ _ hI9 ?kp) 0)
    | ((with_reducible show wpAny _ _ (call (Value.ref 146) _) _ _ _); ktr_call (law_at_says _ _ _ _ _ hI9 ?kp) 0)
    | ((with_reducible show wpAny _ _ (call (Value.ref 151) [Value.int 5 _, _]) _ _ _); ktr_call (H5 _ _) 0)
    | ((with_reducible show wpAny _ _ (call (Value.ref 151) _) _ _ _); ktr_call (run_says _ _ _ _ ?kp) 0)
    | ((with_reducible show wpAny _ _ (call (Value.ref 163) _) _ _ _); ktr_call (law_number_says _ _ _ _ _ hI9 ?kp) 6)
    | ((with_reducible show wpAny _ _ (call (Value.ref 170) [Value.str (headS ns) _]) _ _ _); ktr_call (LF.h1 _) 7)
    | ((with_reducible show wpAny _ _ (call (Value.ref 170) [Value.str (looseS ns) _]) _ _ _); ktr_call (LF.h5 _) 7)
    | ((with_reducible show wpAny _ _ (call (Value.ref 170) [Value.str (_ ++ Str.ofString "*B") _]) _ _ _); ktr_call (LF.h2 _) 7)
    | ((with_reducible show wpAny _ _ (call (Value.ref 170) [Value.str (_ ++ Str.ofString "+C") _]) _ _ _); ktr_call (LF.h3 _) 8)
    | ((with_reducible show wpAny _ _ (call (Value.ref 170) [Value.str (_ ++ Str.ofString "2.5D" ++ _ ++ _) _]) _ _ _); ktr_call (H6 _) 8)
    | ((with_reducible show wpAny _ _ (call (Value.ref 170) [Value.str (_ ++ Str.ofString "12." ++ _) _]) _ _ _); ktr_call (LF.h6 _) 7)
    | ((with_reducible show wpAny _ _ (call (Value.ref 139) _) _ _ _); ktr_call (show_pair_says _ _ _ _ _ _ _ _ ?kp) 13)
    | ((with_reducible show wpAny _ _ (call (Value.ref 177) _) _ _ _); ktr_call (law_shown_says _ _ _ _ _ _ ?kp) 14)
  k_with "table" => skip
  k_with "binaryOp Add str str" => ((k_dflt (refine' add_s ?sa9 ?sb9 ?_)); (case sa9 => ((try simp only [Str.length_append]); omega)); (case sb9 => ((try simp only [Str.length_append]); omega)); intro _ _)
  k_with "src9" => ktr_call ns 11
  k_with "end9" => ktr_call ns 12
  k_with "add9" => ktr_call LF 9
  k_with "ne9" => first | ktr_call LF.ok2 10 | ktr_call LF.ok6 10
  k_with "storeName" => ((with_reducible show wpAny _ _ (storeName _ (Str.ofString "head") _) _ _ _); (with_reducible rename _ < _ ∧ _ < _ ∧ AllLt _ _ => kl9); (with_reducible rename Seqs _ => ks9); (with_reducible rename News _ _ _ _ => kN9); (k_dflt (refine' storeX_C ?zF kN9 ?zc (cell_upd kN9 ks9 ?zm ?zd kl9.2.1) ?zd ?_ ?zx ?zy; (case zx => rfl); (case zy => rfl); (case zm => assumption); (case zF => k_asm); (case zc => rfl); (case zd => k_asm); k_whole; intro h' o' F' N' d'; (try dsimp only at N'); (try k_sweep))))
  k_steps)
end Mine

end

theorem Mine.top_off_L5 : True := by
  w_top off
  trivial

set_option maxRecDepth 100000 in
set_option maxHeartbeats 8000000 in
theorem PySem.Challenge.cw_pf0117_01_holds : PySem.Challenge.rw_pf0117_01.Holds := by
  exact Mine.law_walk Mine.lawFacts
