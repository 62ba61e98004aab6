import PyProof.Rows.All
import Wide.All
import OpenK.AllK
import Wide.FinOn
import HandS.ForMost
import HandS.Walk
import HandS.Zip
import HandS.Codes
import HandS.Evl
import KE.GoesNew
import HandS.More
import PyProof.ListStr
import PyProof.StrOps2
import HandS.Slots
import HandS.SlotsOwn
import HandS.IsInst
import HandS.TupAny
import HandS.DictComp
import HandS.Words
import PySem.Challenge.RW_webwords_k07_whole_eliminations_or_rings
import HandS.Defaults
import HandS.Replace
import HandS.Wide
import HandS.Set
import HandS.SetTxt0
import HandS.SetFor
import HandS.Strs
import HandS.Steps
set_option Elab.async false
set_option linter.all false
set_option maxRecDepth 100000
set_option maxHeartbeats 4000000
/-! texts walked in pairs: enumerate(text), zip(text, text) -/
namespace WW
open PySem PySem.Spec PyProof.Rows L2

/-- an iterator of new pairs, from a GoesN -/
theorem pair_turn {P : Program} {w : World} {K : PySem.W.Frag} {elts : List Expr} {kk : Nat} {tpos : Pos} {I : Addr} {fp wr : List Addr} {n : Nat} {Y : Nat → V → V → Prop} {Yv : Nat → Heap → Value → Heap → Prop} {St : Nat → Heap → Prop}
    (hI : I ∈ fp) (hsub : ∀ b ∈ wr, b ∈ fp)
    (W : ∀ A : Around, A.handled = none → GoesN P w A (.Tuple elts kk tpos) I fp wr n Yv St)
    (obj : ∀ i h, St i h → ∀ b ∈ fp, ∃ o, h.get? b = some o ∧ ∀ v, o.data ≠ .cell v)
    (slf : ∀ (A : Around) (i : Nat) (s : Shared) (Q : Value → Shared → Prop) (E : Value → Shared → Prop), St i s.heap → Q (.ref I) s → wpAny (model P w) A (pyIter (.ref I)) Q E s)
    (hY : ∀ i h0 v h, i < n → Yv i h0 v h → ∃ (T : Addr) (its : List Value) (x y : V), v = .ref T ∧ h0.objs.size ≤ T ∧ h.IsTuple T its.toArray ∧ Vals [x, y] its ∧ Y i x y) :
    Turn P w K (.Tuple elts kk tpos) ⟨fun i _ => i < n, fun i H v H' => ∃ T x y, v = .ref T ∧ H T = none ∧ H' = upd H T (.tup [x, y]) ∧ Y i x y, fun i _ => i = n⟩ fp I St where
  mem := hI
  obj := obj
  keep := fun i h h' st k => (W ⟨none, 0, none, none, 0⟩ rfl).frame i h h' st k
  item := by
    intro X hP hw hK hc i pins s σ H E J hf st hg
    subst hP hw hK
    have G := W X.A (J.ok.hd hc)
    refine G.goes i s _ _ hg st fun v h' tk hy st' hk _ => ?_
    obtain ⟨T, its, x, y, rfl, hT, ht, rv, hy⟩ := hY i s.heap v h' hg hy
    have new : ObjOk X.prog X.w (upd H T (.tup [x, y])) h' T (.tup [x, y]) := ⟨by show 2 ≤ sizeLine; decide, its, rv, ht⟩
    have J1 : Inv X pins σ (upd H T (.tup [x, y])) { s with heap := h', toks := tk } :=
      J.turnedNew (ch := wr) (fun b o hb q => hk b o hb q) (fun b hb => hf b (hsub b hb)) hT new
    refine ⟨.ref T, _, J1, rfl, ⟨T, x, y, rfl, J.hok.fresh hT, rfl, hy⟩, st', fun b hb => ?_⟩
    obtain ⟨o, ho, _⟩ := obj i _ st b hb
    rw [upd_ne (Nat.ne_of_lt (Nat.lt_of_lt_of_le (Heap.lt_size ho) hT))]
    exact (hf b hb).1
  done := by
    intro X hP hw hK hc i pins s σ H E J hf st hg
    subst hP hw hK
    have G := W X.A (J.ok.hd hc)
    have hg : i = n := hg
    subst hg
    exact G.stops s _ _ st fun h' tk hk _ => J.turnedL (ch := wr) (t' := tk) (fun b o hb q => hk b o hb q) fun b hb => hf b (hsub b hb)
  self := fun A i s Q E st h => slf A i s Q E st h

def ItP (n : Nat) (Y : Nat → V → V → Prop) : It := ⟨fun i _ => i < n, fun i H v H' => ∃ T x y, v = .ref T ∧ H T = none ∧ H' = upd H T (.tup [x, y]) ∧ Y i x y, fun i _ => i = n⟩
/-- a record of an iterator is no cell -/
abbrev Rec (h : Heap) (b : Addr) : Prop := ∃ o, h.get? b = some o ∧ ∀ v, o.data ≠ .cell v
theorem rec_fields {h : Heap} {b : Addr} {c : Value} {vs : Array Value} (e : h.get? b = some { cls := c, data := .fields vs }) : Rec h b := ⟨_, e, nofun⟩
theorem rec_text {h : Heap} {b : Addr} {ty : String} {x : Str} {t : Tok} {i : Nat} : h.IsStrIter b ty x t i → Rec h b
  | ⟨o, e, _, d⟩ => ⟨o, e, fun v q => nomatch d.symm.trans q⟩
section
variable {X : Cx} {tg : Expr} {pins : List (Addr × Obj)} {σ : L2.St} {H : Hp} {s : Shared}
/-- an iterator of which every record is new -/
theorem pie_new {h' : Heap} {it : Addr} {fp : List Addr} {tn : Nat → Heap → Prop} {J : It} {R : It → Hp → Prop} (I : Inv X pins σ H s) (old : ∀ b u, s.heap.get? b = some u → h'.get? b = some u) (T : Turn X.prog X.w X.K tg J fp it tn) (st : tn 0 h')
    (new : ∀ b ∈ fp, s.heap.objs.size ≤ b) (q : R J H) : PIE X pins σ tg R (.ref it) { s with heap := h' } :=
  ⟨it, fp, tn, J, H, rfl, I.kept (t' := s.toks) old, T, st, fun b hb => I.fpOk (new b hb) (I.hok.fresh (new b hb)), q⟩
/-- what a built-in type makes of values is walked -/
def MakeR (X : Cx) (tg : Expr) (f : Value) (r : List V → Hp → (It → Hp → Prop) → Prop) : Prop :=
  ∀ (pins : List (Addr × Obj)) (σ : L2.St) (s : Shared) (H : Hp) (vs : List V) (us : List Value) (R : It → Hp → Prop), Inv X pins σ H s → Vals vs us → r vs H R → wpAny (model X.prog X.w) X.A (call f us) (fun v s1 => wpAny (model X.prog X.w) X.A (pyIter v) (PIE X pins σ tg R) X.xe s1) X.xe s
theorem pi_make {T : String} {x : Str} {e : Expr} {es : List Expr} {ta : TA} {p pos : Pos} {r : List V → Hp → (It → Hp → Prop) → Prop} (mk : MakeR X tg (.type T) r) (hg : Gl X x) (hm : X.mg x = none) (hv : bootBuiltins x = some (.type T)) (ha : PA X (e :: es) ta)
    (hn : x ≠ "__name__") (hd : (x == ("__debug__" : Str)) = false) (hs : starEach (e :: es) X.env = (false, eval e X.env) :: starEach es X.env) (hpl : (backTo pos (starEach es X.env)).any (·.1) = false) :
    PI X tg (.Call (.Name x p) (e :: es) [] pos) (fun σ H R => ta σ H fun vs H1 => r vs H1 R) where
  run pins s σ H R I h := Call_ (ld_blt I hg hm hv (PyProof.Rows.callWith_type1 (wpAny_mono (ha.run pos pins s σ H _ I h) (fun us s1 z => match z with | ⟨vs, H1, I1, rv, q⟩ => mk pins σ s1 H1 vs us R I1 rv q) fun _ _ z => z) hs hpl) hn hd)
end
/-- enumerate(text) -/
def YEs (x : Str) : Nat → V → V → Prop := fun i a b => a = .int (i : Nat) ∧ ∃ c, x.cps[i]? = some c ∧ b = .str ⟨#[c]⟩
theorem turn_enumS {P : Program} {w : World} {K : PySem.W.Frag} {elts : List Expr} {kk : Nat} {tpos : Pos} (x : Str) (t : Tok) (e it : Addr) (hne : e ≠ it) :
    Turn P w K (.Tuple elts kk tpos) (ItP x.cps.size (YEs x)) [e, it] e (fun i h => (∃ old, IsEnum h e it ((0 : Int) + (i : Int)) old) ∧ h.IsStrIter it (strIterType x) x t i) :=
  pair_turn (wr := [e, it]) List.mem_cons_self (fun _ hb => hb)
    (fun A hh => GoesN.enumFrom 0 (Draws.text (A := A.in1) hh it x t) e hne (fun z => hne (List.mem_singleton.1 z)) List.mem_cons_self)
    (fun i h st => List.forall_mem_cons.2 ⟨rec_fields st.1.choose_spec, List.forall_mem_singleton.2 (rec_text st.2)⟩)
    (fun A i s Q E st h => wpAny_pyIter_enum st.1.choose_spec h)
    (fun i h0 v h _ y => match y with
      | ⟨T, tk, _, hv, hn, ⟨c, u, hc, hy⟩, hT⟩ => ⟨T, [.int ((0 : Int) + (i : Int)) tk, .str ⟨#[c]⟩ u], .int (i : Nat), .str ⟨#[c]⟩, hv, hn, hy ▸ hT, .cons ⟨tk, by rw [Int.zero_add]⟩ (.cons ⟨u, rfl⟩ .nil), rfl, c, hc, rfl⟩)
def rEnumS : List V → Hp → (It → Hp → Prop) → Prop := fun vs H R => ∃ x, vs = [.str x] ∧ R (ItP x.cps.size (YEs x)) H
theorem make_enumS {X : Cx} {elts : List Expr} {kk : Nat} {tpos : Pos} : MakeR X (.Tuple elts kk tpos) (.type "enumerate") rEnumS := by
  rintro pins σ s H _ us R I rv ⟨x, rfl, q⟩
  match us, rv with
  | [_], .cons ⟨t, rfl⟩ .nil =>
    refine call_enumerate_str fun h' he hit _ old => wpAny_pyIter_enum he (pie_new I old (turn_enumS x t _ _ (Nat.succ_ne_self _)) ⟨⟨_, he⟩, hit⟩ ?_ q)
    exact List.forall_mem_cons.2 ⟨Nat.le_succ _, List.forall_mem_singleton.2 (Nat.le_refl _)⟩
def iEnumS (ta : TA) : TI := fun σ H R => ta σ H fun vs H1 => rEnumS vs H1 R
theorem pi_enumS {X : Cx} {e : Expr} {ta : TA} {p pos tpos : Pos} {elts : List Expr} {kk : Nat} (hg : Gl X "enumerate") (hm : X.mg "enumerate" = none) (ha : PA X [e] ta) (hs : starEach [e] X.env = [(false, eval e X.env)] := by rfl) :
    PI X (.Tuple elts kk tpos) (.Call (.Name "enumerate" p) [e] [] pos) (iEnumS ta) :=
  pi_make make_enumS hg hm boot_enumerate ha (by decide) (by decide) hs rfl
/-- zip(text, text) -/
def YZs (x y : Str) : Nat → V → V → Prop := fun i a b => ∃ c d, x.cps[i]? = some c ∧ y.cps[i]? = some d ∧ a = .str ⟨#[c]⟩ ∧ b = .str ⟨#[d]⟩
theorem zip_sub {z TI TO i1 i2 : Addr} : ∀ b ∈ [z, TO, i1, i2], b ∈ z :: TI :: TO :: ([i1] ++ [i2]) := fun b hb => by
  rcases List.mem_cons.1 hb with e | hb
  · exact e ▸ .head _
  · exact .tail _ (.tail _ hb)
theorem turn_zipS {P : Program} {w : World} {K : PySem.W.Frag} {elts : List Expr} {kk : Nat} {tpos : Pos} (x y : Str) (t u : Tok) (z TI TO i1 i2 : Addr) (S : ZipSep2 z TI TO i1 i2 [i1] [i2]) :
    Turn P w K (.Tuple elts kk tpos) (ItP (min x.cps.size y.cps.size) (YZs x y)) (z :: TI :: TO :: ([i1] ++ [i2])) z (fun i h => IsZip h z TI TO .none ∧ IsTupOf2 h TI (.ref i1) (.ref i2) ∧ (∃ a1 a2, IsTupOf2 h TO a1 a2) ∧ h.IsStrIter i1 (strIterType x) x t i ∧ h.IsStrIter i2 (strIterType y) y u i) :=
  pair_turn (wr := [z, TO, i1, i2]) List.mem_cons_self zip_sub
    (fun A hh => GoesN.zip2 S (Draws.text (A := A.in1) hh i1 x t) (Draws.text (A := A.in1) hh i2 y u))
    (fun i h st => match st with
      | ⟨hz, hI, ⟨_, _, hO⟩, h1, h2⟩ => List.forall_mem_cons.2 ⟨⟨_, hz, nofun⟩, List.forall_mem_cons.2 ⟨⟨_, hI, nofun⟩, List.forall_mem_cons.2 ⟨⟨_, hO, nofun⟩, List.forall_mem_cons.2 ⟨rec_text h1, List.forall_mem_singleton.2 (rec_text h2)⟩⟩⟩⟩)
    (fun A i s Q E st h => wpAny_pyIter_zip st.1 h)
    (fun i h0 v h _ yy => match yy with
      | ⟨T, _, _, hv, hn, ⟨c, u1, hc, ha⟩, ⟨d, u2, hd, hb⟩, hT⟩ => ⟨T, [.str ⟨#[c]⟩ u1, .str ⟨#[d]⟩ u2], .str ⟨#[c]⟩, .str ⟨#[d]⟩, hv, hn, ha ▸ hb ▸ hT, .cons ⟨u1, rfl⟩ (.cons ⟨u2, rfl⟩ .nil), c, d, hc, hd, rfl, rfl⟩)
def rZipS : List V → Hp → (It → Hp → Prop) → Prop := fun vs H R => ∃ x y, vs = [.str x, .str y] ∧ R (ItP (min x.cps.size y.cps.size) (YZs x y)) H
theorem make_zipS {X : Cx} {elts : List Expr} {kk : Nat} {tpos : Pos} : MakeR X (.Tuple elts kk tpos) (.type "zip") rZipS := by
  rintro pins σ s H _ us R I rv ⟨x, y, rfl, q⟩
  match us, rv with
  | [_, _], .cons ⟨t, rfl⟩ (.cons ⟨u, rfl⟩ .nil) =>
    refine zip_begins2 (begins_text x t) (begins_text y u) True.intro True.intro fun h' hz hI hO h1 h2 _ old => ?_
    refine wpAny_pyIter_zip hz (pie_new I old (turn_zipS x y t u _ _ _ _ _ (zip_sep2 (fp1 := []) (fp2 := []) nofun nofun)) ⟨hz, hI, ⟨_, _, hO⟩, ⟨_, h1, rfl, rfl⟩, ⟨_, h2, rfl, rfl⟩⟩ ?_ q)
    simp
def iZipS (ta : TA) : TI := fun σ H R => ta σ H fun vs H1 => rZipS vs H1 R
theorem pi_zipS {X : Cx} {e e2 : Expr} {ta : TA} {p pos tpos : Pos} {elts : List Expr} {kk : Nat} (hg : Gl X "zip") (hm : X.mg "zip" = none) (ha : PA X [e, e2] ta)
    (hs : starEach [e, e2] X.env = (false, eval e X.env) :: starEach [e2] X.env := by rfl)
    (hpl : (backTo pos (starEach [e2] X.env)).any (·.1) = false := by rfl) :
    PI X (.Tuple elts kk tpos) (.Call (.Name "zip" p) [e, e2] [] pos) (iZipS ta) :=
  pi_make make_zipS hg hm PyProof.Rows.boot_zip ha (by decide) (by decide) hs hpl
end WW

/-! min and max of texts; list(text); sorted(text); text * n -/
namespace WW
open PySem PySem.Spec PyProof.Rows L2

theorem lex_trans {a b c : List Nat} (h1 : a < b) (h2 : b < c) : a < c := List.lt_trans h1 h2
theorem lex_irrefl (a : List Nat) : ¬ a < a := List.lt_irrefl a
theorem cmp_lt_strs {prog : Program} {w : World} {A : Around} {P : Nat → Value → Prop} (val : Nat → Str) (hval : ∀ i v, P i v → ∃ t, v = .str (val i) t) :
    CmpOf prog w A .Lt P (fun i j => decide ((val i).cps.toList < (val j).cps.toList)) := fun i j vi vj s Q E hi hj h =>
  match vi, hval i vi hi, vj, hval j vj hj with
  | _, ⟨t, rfl⟩, _, ⟨u, rfl⟩ => richCompare_gives (op := .Lt) (typeIs_str s _ t) (typeIs_str s _ u) F.slot_str_lt F.entry_str_lt (F.args_str_lt_2 _ _) (PySem.gives_str_lt _ _ t u) nofun h
theorem cmp_gt_strs {prog : Program} {w : World} {A : Around} {P : Nat → Value → Prop} (val : Nat → Str) (hval : ∀ i v, P i v → ∃ t, v = .str (val i) t) :
    CmpOf prog w A .Gt P (fun i j => decide ((val j).cps.toList < (val i).cps.toList)) := fun i j vi vj s Q E hi hj h =>
  match vi, hval i vi hi, vj, hval j vj hj with
  | _, ⟨t, rfl⟩, _, ⟨u, rfl⟩ => richCompare_gives (op := .Gt) (typeIs_str s _ t) (typeIs_str s _ u) F.slot_str_gt F.entry_str_gt (F.args_str_gt_2 _ _) (PySem.gives_str_gt _ _ t u) nofun h
theorem best_lt (val : Nat → List Nat) : ∀ k, argBest (fun i j => decide (val i < val j)) k ≤ k ∧ ∀ i, i ≤ k → ¬ val i < val (argBest (fun i j => decide (val i < val j)) k)
  | 0 => ⟨Nat.le_refl _, fun i hi => by
    have e : i = 0 := by omega
    subst e
    exact lex_irrefl _⟩
  | k + 1 => by
    obtain ⟨h1, h2⟩ := best_lt val k
    by_cases hb : decide (val (k + 1) < val (argBest (fun i j => decide (val i < val j)) k)) = true
    · have ea : argBest (fun i j => decide (val i < val j)) (k + 1) = k + 1 := if_pos hb
      rw [ea]
      refine ⟨Nat.le_refl _, fun i hi hlt => ?_⟩
      by_cases e : i = k + 1
      · subst e
        exact lex_irrefl _ hlt
      · exact h2 i (by omega) (lex_trans hlt (of_decide_eq_true hb))
    · have ea : argBest (fun i j => decide (val i < val j)) (k + 1) = argBest (fun i j => decide (val i < val j)) k := if_neg hb
      rw [ea]
      refine ⟨by omega, fun i hi hlt => ?_⟩
      by_cases e : i = k + 1
      · subst e
        exact hb (decide_eq_true hlt)
      · exact h2 i (by omega) hlt

/-- what stands under a new place -/
theorem off1 {c z : Nat} (h : c < z) : c ∉ [z] := fun hm => by
  rw [List.mem_singleton] at hm
  omega
theorem under2 {h : Heap} {o p : Obj} {c : Nat} (hs : (h.push o).objs.size = h.objs.size + 1) (hc : c ∈ [(h.push o).objs.size, h.objs.size]) : c < ((h.push o).push p).objs.size := by
  rw [List.mem_cons, List.mem_singleton] at hc
  rw [Heap.size_push]
  omega
theorem under1 {h : Heap} {o : Obj} {c y : Nat} (hy : y = h.objs.size ∨ y < h.objs.size) (hc : c ∈ [h.objs.size, y]) : c < (h.push o).objs.size := by
  rw [List.mem_cons, List.mem_singleton] at hc
  rw [Heap.size_push]
  omega
section
variable {X : Cx}
/-- min(text, text), max(text, text) -/
def rMin2S : List V → Hp → VK → Prop := fun vs H Q => ∃ a b : Str, vs = [.str a, .str b] ∧ Q (.str (if b.cps.toList < a.cps.toList then b else a)) H
def rMax2S : List V → Hp → VK → Prop := fun vs H Q => ∃ a b : Str, vs = [.str a, .str b] ∧ Q (.str (if a.cps.toList < b.cps.toList then b else a)) H
theorem two_at {a b v : Value} {i : Nat} (h : (#[a, b] : Array Value)[i]? = some v) : (i = 0 ∧ v = a) ∨ (i = 1 ∧ v = b) := by
  match i, h with
  | 0, h => exact .inl ⟨rfl, (Option.some.inj h).symm⟩
  | 1, h => exact .inr ⟨rfl, (Option.some.inj h).symm⟩
  | n + 2, h => simp at h
theorem cr_min2S (hc : X.calm = true) : CallR X (.builtin "min") rMin2S := by
  intro pins s σ H xs us Q; intro I r h
  obtain ⟨a, b, rfl, q⟩ := h
  obtain ⟨u, w', rfl, ⟨t, rfl⟩, t', rfl⟩ := vals2 r
  have hh := I.ok.hd hc
  have hT : (s.heap.push { cls := .type "tuple", data := .seq #[Value.str a t, .str b t'] }).IsTuple s.heap.objs.size #[Value.str a t, .str b t'] := ⟨_, Heap.get?_push_size _ rfl, rfl, 0, rfl⟩
  apply call_min_two
  refine wpAny_pyIter_tuple hT ?_
  have hsz : (s.heap.push { cls := .type "tuple", data := .seq #[Value.str a t, .str b t'] }).objs.size = s.heap.objs.size + 1 := Heap.size_push ..
  refine ⟨_, [_, s.heap.objs.size], [_], _, _, _, _, rfl, Walks.tuple (A := X.A.in1) hh _ s.heap.objs.size (by rw [hsz]; exact Nat.ne_of_lt (Nat.lt_succ_self _)) #[Value.str a t, .str b t'],
    ⟨⟨_, Heap.get?_push_size _ rfl, rfl, rfl⟩, hT.push _⟩, fun c hcm => ?_, by simp, cmp_lt_strs (fun i => if i = 0 then a else b) (fun i v hv => ?_), fun v h' tk hP hk => ?_⟩
  · exact under2 hsz hcm
  · rcases two_at hv with ⟨rfl, rfl⟩ | ⟨rfl, rfl⟩
    · exact ⟨t, rfl⟩
    · exact ⟨t', rfl⟩
  · have hold := fun (c : Addr) (o : Obj) (e : s.heap.get? c = some o) => hk c o (off1 (Nat.lt_trans (Heap.lt_size e) (by rw [hsz]; omega))) (Heap.get?_push_of_some _ (Heap.get?_push_of_some _ e))
    have hP' : (#[Value.str a t, .str b t'] : Array Value)[if decide (b.cps.toList < a.cps.toList) = true then 1 else 0]? = some v := hP
    refine ⟨.str (if b.cps.toList < a.cps.toList then b else a), H, I.kept hold, ?_, q⟩
    by_cases hlt : b.cps.toList < a.cps.toList
    · rw [if_pos (decide_eq_true hlt)] at hP'
      rw [if_pos hlt]
      exact ⟨t', (Option.some.inj hP').symm⟩
    · rw [if_neg (by simpa using hlt)] at hP'
      rw [if_neg hlt]
      exact ⟨t, (Option.some.inj hP').symm⟩
theorem cr_max2S (hc : X.calm = true) : CallR X (.builtin "max") rMax2S := by
  intro pins s σ H xs us Q; intro I r h
  obtain ⟨a, b, rfl, q⟩ := h
  obtain ⟨u, w', rfl, ⟨t, rfl⟩, t', rfl⟩ := vals2 r
  have hh := I.ok.hd hc
  have hT : (s.heap.push { cls := .type "tuple", data := .seq #[Value.str a t, .str b t'] }).IsTuple s.heap.objs.size #[Value.str a t, .str b t'] := ⟨_, Heap.get?_push_size _ rfl, rfl, 0, rfl⟩
  apply call_max_two
  refine wpAny_pyIter_tuple hT ?_
  have hsz : (s.heap.push { cls := .type "tuple", data := .seq #[Value.str a t, .str b t'] }).objs.size = s.heap.objs.size + 1 := Heap.size_push ..
  refine ⟨_, [_, s.heap.objs.size], [_], _, _, _, _, rfl, Walks.tuple (A := X.A.in1) hh _ s.heap.objs.size (by rw [hsz]; exact Nat.ne_of_lt (Nat.lt_succ_self _)) #[Value.str a t, .str b t'],
    ⟨⟨_, Heap.get?_push_size _ rfl, rfl, rfl⟩, hT.push _⟩, fun c hcm => ?_, by simp, cmp_gt_strs (fun i => if i = 0 then a else b) (fun i v hv => ?_), fun v h' tk hP hk => ?_⟩
  · exact under2 hsz hcm
  · rcases two_at hv with ⟨rfl, rfl⟩ | ⟨rfl, rfl⟩
    · exact ⟨t, rfl⟩
    · exact ⟨t', rfl⟩
  · have hold := fun (c : Addr) (o : Obj) (e : s.heap.get? c = some o) => hk c o (off1 (Nat.lt_trans (Heap.lt_size e) (by rw [hsz]; omega))) (Heap.get?_push_of_some _ (Heap.get?_push_of_some _ e))
    have hP' : (#[Value.str a t, .str b t'] : Array Value)[if decide (a.cps.toList < b.cps.toList) = true then 1 else 0]? = some v := hP
    refine ⟨.str (if a.cps.toList < b.cps.toList then b else a), H, I.kept hold, ?_, q⟩
    by_cases hlt : a.cps.toList < b.cps.toList
    · rw [if_pos (decide_eq_true hlt)] at hP'
      rw [if_pos hlt]
      exact ⟨t', (Option.some.inj hP').symm⟩
    · rw [if_neg (by simpa using hlt)] at hP'
      rw [if_neg hlt]
      exact ⟨t, (Option.some.inj hP').symm⟩
/-- min(list of texts) -/
def rMinS (K : PySem.W.Frag) : List V → Hp → VK → Prop := fun vs H Q => ∃ (a : Addr) (xs : List Str), vs = [V.ref a] ∧ SqL K H a (xs.map V.str) ∧ xs ≠ [] ∧ ∀ m, m ∈ xs → (∀ y ∈ xs, ¬ y.cps.toList < m.cps.toList) → Q (.str m) H
theorem cr_minS (hc : X.calm = true) : CallR X (.builtin "min") (rMinS X.K) := by
  intro pins s σ H vs us Q; intro I r h
  obtain ⟨a, xs, rfl, hs, hne, q⟩ := h
  obtain ⟨its, ⟨rv, hl, _⟩⟩ := I.list hs
  rw [Vals.ref1 r]
  have hlen : its.length = xs.length := by rw [← rv.length, List.length_map]
  have hpos : 0 < xs.length := List.length_pos_iff.mpr hne
  have hat : ∀ (i : Nat) v, its.toArray[i]? = some v → ∃ (hi : i < xs.length), ∃ t, v = .str xs[i] t := fun i v hv => by
    have hv' := (List.getElem?_toArray (xs := its) (i := i)).symm.trans hv
    have hi : i < xs.length := by rw [← hlen]; exact (List.getElem?_eq_some_iff.mp hv').1
    obtain ⟨u, hu, ru⟩ := rv.get (i := i) (x := .str xs[i]) (by rw [List.getElem?_map, List.getElem?_eq_getElem hi]; rfl)
    rw [hv'] at hu
    obtain rfl := Option.some.inj hu
    exact ⟨hi, ru⟩
  have hal : a < s.heap.objs.size := by obtain ⟨_, e, _⟩ := hl.isList; exact Heap.lt_size e
  refine call_min_walk (iter_any hl.isList fun s₂ e2 st hne2 => ?_)
  subst e2
  refine ⟨_, _, _, _, _, _, _, rfl, Walks.list (A := X.A.in1) (I.ok.hd hc) _ a hne2 its.toArray, st, fun c hcm => ?_, by simp; omega, cmp_lt_strs (fun i => xs.getD i Str.empty) (fun i v hv => ?_), fun v h' tk hP hk => ?_⟩
  · exact under1 (y := a) (.inr hal) hcm
  · obtain ⟨hi, t, rfl⟩ := hat i v hv
    exact ⟨t, by rw [List.getD_eq_getElem?_getD, List.getElem?_eq_getElem hi]; rfl⟩
  · have hold := fun (c : Addr) (o : Obj) (e : s.heap.get? c = some o) => hk c o (off1 (Heap.lt_size e)) (Heap.get?_push_of_some _ e)
    obtain ⟨hi, t, rfl⟩ := hat _ v hP
    obtain ⟨b1, b2⟩ := best_lt (fun i => (xs.getD i Str.empty).cps.toList) (its.toArray.size - 1)
    refine ⟨.str xs[argBest (fun i j => decide ((xs.getD i Str.empty).cps.toList < (xs.getD j Str.empty).cps.toList)) (its.toArray.size - 1)], H, I.kept hold, ⟨t, rfl⟩, q _ (List.getElem_mem _) fun y hy hlt => ?_⟩
    obtain ⟨j, hj, rfl⟩ := List.mem_iff_getElem.mp hy
    refine b2 j (by simp; omega) ?_
    have e0 : ∀ k (hk : k < xs.length), xs.getD k Str.empty = xs[k] := fun k hk => by
      rw [List.getD_eq_getElem?_getD, List.getElem?_eq_getElem hk]
      rfl
    show (xs.getD j Str.empty).cps.toList < (xs.getD _ Str.empty).cps.toList
    rw [e0 j hj, e0 _ hi]
    exact hlt
/-- min(text) -/
def rMinT : List V → Hp → VK → Prop := fun vs H Q => ∃ z : Str, vs = [V.str z] ∧ 0 < z.cps.size ∧ ∀ c, c ∈ z.cps.toList → (∀ d ∈ z.cps.toList, ¬ d < c) → Q (.str ⟨#[c]⟩) H
theorem one_lt {a b : Nat} (h : ([a] : List Nat) < [b]) : a < b := by
  rcases List.cons_lt_cons_iff.mp h with h | ⟨_, h⟩
  · exact h
  · exact absurd h (List.lt_irrefl _)
theorem lt_one {a b : Nat} (h : a < b) : ([a] : List Nat) < [b] := List.cons_lt_cons_iff.mpr (.inl h)
theorem cr_minT (hc : X.calm = true) : CallR X (.builtin "min") rMinT := by
  intro pins s σ H vs us Q; intro I r h
  obtain ⟨z, rfl, hpos, q⟩ := h
  obtain ⟨u, rfl, ⟨t, rfl⟩⟩ := vals1 r
  have hat : ∀ (i : Nat) v, SignAt z i v → ∃ (hi : i < z.cps.size), ∃ t, v = .str ⟨#[z.cps[i]]⟩ t := fun i v hv => by
    obtain ⟨c, u, h1, rfl⟩ := hv
    obtain ⟨hi, e⟩ := Array.getElem?_eq_some_iff.mp h1
    exact ⟨hi, u, by rw [e]⟩
  refine call_min_walk (wpAny_pyIter_str fun o St W hst => ?_)
  refine ⟨_, _, _, _, _, _, _, rfl, W X.A.in1 (I.ok.hd hc), hst, fun c hcm => ?_, hpos, cmp_lt_strs (fun i => ⟨#[z.cps.getD i 0]⟩) (fun i v hv => ?_), fun v h' tk hP hk => ?_⟩
  · rw [List.mem_singleton] at hcm
    show c < (s.heap.push _).objs.size
    rw [hcm, Heap.size_push]
    exact Nat.lt_succ_self _
  · obtain ⟨hi, t, rfl⟩ := hat i v hv
    exact ⟨t, by rw [Array.getD_eq_getD_getElem?, Array.getElem?_eq_getElem hi]; rfl⟩
  · have hold := fun (c : Addr) (o : Obj) (e : s.heap.get? c = some o) => hk c o (off1 (Heap.lt_size e)) (Heap.get?_push_of_some _ e)
    obtain ⟨hi, t, rfl⟩ := hat _ v hP
    obtain ⟨b1, b2⟩ := best_lt (fun i => [z.cps.getD i 0]) (z.cps.size - 1)
    refine ⟨.str _, H, I.kept hold, ⟨t, rfl⟩, q _ (Array.getElem_mem_toList _) fun d hd hlt => ?_⟩
    obtain ⟨j, hj, rfl⟩ := List.mem_iff_getElem.mp hd
    have hj' : j < z.cps.size := by simpa using hj
    refine b2 j (by omega) ?_
    have e1 : z.cps.getD j 0 = z.cps.toList[j] := by
      rw [Array.getD_eq_getD_getElem?, Array.getElem?_eq_getElem hj']
      simp
    refine lt_one ?_
    rw [e1]
    have e2 : ∀ k (hk : k < z.cps.size), z.cps.getD k 0 = z.cps[k] := fun k hk => by
      rw [Array.getD_eq_getD_getElem?, Array.getElem?_eq_getElem hk]
      rfl
    rw [e2 _ hi]
    exact hlt
/-- list(text) -/
def signs (z : Str) : List V := z.cps.toList.map fun c => V.str ⟨#[c]⟩
theorem vals_signs {z : Str} {acc : Array Value} (h : ItemsOf (SignAt z) acc z.cps.size) : Vals (signs z) acc.toList := by
  have key : ∀ (cs : List Nat) (us : List Value), us.length = cs.length → (∀ (i : Nat) (v : Value), us[i]? = some v → ∃ c u, cs[i]? = some c ∧ v = Value.str ⟨#[c]⟩ u) → Vals (cs.map fun c => V.str ⟨#[c]⟩) us := by
    intro cs
    induction cs with
    | nil =>
      intro us hl _
      cases us with
      | nil => exact .nil
      | cons _ _ => cases hl
    | cons c r ih =>
      intro us hl hv
      cases us with
      | nil => cases hl
      | cons u us =>
        obtain ⟨c', t, h1, h2⟩ := hv 0 u rfl
        obtain rfl := Option.some.inj h1
        exact .cons ⟨t, h2⟩ (ih us (Nat.succ.inj hl) fun i v e => hv (i + 1) v (by simpa using e))
  refine key _ _ (by rw [Array.length_toList, Array.length_toList]; exact h.1) fun i v e => ?_
  obtain ⟨c, u, h1, h2⟩ := h.2 i v (by rw [← Array.getElem?_toList]; exact e)
  exact ⟨c, u, by rw [Array.getElem?_toList]; exact h1, h2⟩
def rListT : List V → Hp → VK → Prop := fun vs H Q => ∃ z : Str, vs = [V.str z] ∧ z.length ≤ sizeLine ∧ ∀ l, H l = none → Q (.ref l) (upd H l (.lst (signs z)))
theorem signs_len (z : Str) : (signs z).length = z.length := by
  unfold signs
  rw [List.length_map]
  rfl
theorem cr_listT (hc : X.calm = true) : CallR X (.type "list") rListT := by
  intro pins s σ H vs us Q; intro I r h
  obtain ⟨z, rfl, hz, q⟩ := h
  obtain ⟨u, rfl, ⟨t, rfl⟩⟩ := vals1 r
  refine call_list_str (I.ok.hd hc) z t (fun h' tk acc' c' hk hl hacc => ?_) hz
  have hn := I.hok.fresh (a := s.heap.objs.size) (Nat.le_refl _)
  exact ⟨.ref s.heap.objs.size, _, I.laid (t' := tk) hk (Nat.le_refl _) (show ObjOk X.prog X.w _ h' _ (.lst (signs z)) from ⟨by rw [signs_len]; exact hz, acc'.toList, c', vals_signs hacc, hl⟩), rfl, q _ hn⟩
/-- the frame in which the calls of a built-in function run -/
abbrev inn (X : Cx) (E : Value → Shared → Prop) : Cx := { X with A := X.A.in1, xe := E }
theorem inv_in {pins : List (Addr × Obj)} {s : Shared} {σ : L2.St} {H : Hp} {E : Value → Shared → Prop} (I : Inv X pins σ H s) : Inv (inn X E) pins σ H s :=
  have k := I.ok
  ⟨⟨k.mod, k.kind, k.glob, k.blt, k.above, k.inj, k.has, k.cab, k.hd, k.frames, k.stk, k.exf, k.bs, k.bsz, k.noex, k.exfs, k.funs, k.frf⟩, I.os, I.bare, I.base, I.loc, I.cell, I.free, I.freeC, I.pin, I.hok, I.len⟩
theorem inv_out {pins : List (Addr × Obj)} {s : Shared} {σ : L2.St} {H : Hp} {E : Value → Shared → Prop} (k : X.Ok) (I : Inv (inn X E) pins σ H s) : Inv X pins σ H s := ⟨k, I.os, I.bare, I.base, I.loc, I.cell, I.free, I.freeC, I.pin, I.hok, I.len⟩
/-- sorted of what can be gathered as texts: a list is made, and list.sort (the library's mt_sortS, in the frame of the call) sorts it -/
theorem sorted_gathered {pins : List (Addr × Obj)} {s : Shared} {σ : L2.St} {H : Hp} {E : Value → Shared → Prop} {Q : VK} {u : Value} {ks : List Str} (I : Inv X pins σ H s) (h64 : ks.length < 64)
    (hcol : ∀ R : List Value → Shared → Prop, (∀ h' tk g d vs ks', (∀ b o, s.heap.get? b = some o → h'.get? b = some o) → g = s.gens → ks'.Perm ks → StrsAre vs ks' → R vs { s with heap := h', toks := tk, gens := g, drawn := d }) → wpAny (model X.prog X.w) X.A.in1 (collect u) R E s)
    (q : ∀ ys p, ys.Perm ks → sortedS ys = true → H p = none → Q (.ref p) (upd H p (.lst (ys.map V.str)))) : wpAny (model X.prog X.w) X.A (call (.builtin "sorted") [u]) (EP X pins σ Q) E s := by
  apply Calls.call_function_entry PyProof.Rows.kind_sorted PyProof.Rows.plain_sorted PyProof.Rows.entry_sorted (PyProof.Rows.args_sorted1 _)
  show wpAny _ _ (checkCount "sorted" 1 1 1 >>= fun _ => collect u >>= fun xs => newList xs >>= fun l => holding [l] (call (.builtin "list.sort") [l] []) >>= fun _ => ret l) _ _ s
  refine wpAny_bind (wpAny_pure (wpAny_bind (hcol _ fun h' tk g d vs ks' old eg pm hS => ?_)))
  subst eg
  have few : ks'.length < 64 := pm.length_eq ▸ h64
  have fits : vs.length ≤ sizeLine := by rw [hS.length, sizeLine_eq]; omega
  have I1 : Inv X pins σ H { s with heap := h', toks := tk, drawn := d } := I.call (ch := []) (g' := s.gens) (d' := d) (t' := tk) (Un.kept old) (I.hok.kept old) I.bare (fun _ z => nomatch z)
  have new : H h'.objs.size = none := I1.hok.fresh (Nat.le_refl _)
  have I2 : Inv X pins σ (upd H h'.objs.size (.lst (ks'.map V.str))) { s with heap := h'.push (seqObj "list" vs.toArray 0), toks := tk, drawn := d } :=
    I1.laid (t' := tk) (fun _ _ e => Heap.get?_push_of_some _ e) (Nat.le_refl _) ⟨by rw [List.length_map, ← hS.length]; exact fits, vs, 0, vals_of_strs hS, Heap.get?_push_size _ rfl⟩
  refine wpAny_bind (wpAny_newList (wpAny_bind (wpAny_holding (wpAny_mono (mt_sortS (X := inn X E) pins _ σ _ (.ref h'.objs.size) [] _ [] (fun _ H2 => ∃ ys, ys.Perm ks ∧ sortedS ys = true ∧ H2 = upd H h'.objs.size (.lst (ys.map V.str)))
    (inv_in I2) rfl .nil ⟨_, ks', rfl, rfl, upd_same, few, fun ys h1 h2 => ⟨ys, h1.trans pm, h2, upd_upd⟩⟩) (fun r s2 z => ?_) fun _ _ z => z))) fits)
  obtain ⟨_, _, I3, _, ys, h1, h2, rfl⟩ := z
  exact wpAny_pure ⟨_, rfl, .ref h'.objs.size, _, inv_out I.ok I3, rfl, q ys _ h1 h2 new⟩
theorem strsAre_vals : ∀ {ks : List Str} {us : List Value}, Vals (ks.map V.str) us → StrsAre us ks
  | [], _, .nil => .nil
  | k :: ks, _, .cons ⟨t, e⟩ r => by
    subst e
    exact .cons k t (strsAre_vals r)
/-- sorted(text) -/
def rSortT : List V → Hp → VK → Prop := fun vs H Q => ∃ z : Str, vs = [V.str z] ∧ z.length < 64 ∧ ∀ ys p, ys.Perm (z.cps.toList.map fun c => (⟨#[c]⟩ : Str)) → sortedS ys = true → H p = none → Q (.ref p) (upd H p (.lst (ys.map V.str)))
theorem cr_sortT (hc : X.calm = true) : CallR X (.builtin "sorted") rSortT := by
  intro pins s σ H vs us Q; intro I r h
  obtain ⟨z, rfl, hz, q⟩ := h
  obtain ⟨u, rfl, ⟨t, rfl⟩⟩ := vals1 r
  refine sorted_gathered I (ks := z.cps.toList.map fun c => (⟨#[c]⟩ : Str)) (by rw [List.length_map]; exact hz) (fun R hR => ?_) q
  refine wpAny_collect_str (A := X.A.in1) (I.ok.hd hc) z t (fun s' acc hk hg hd ho hacc => ?_) (by have e : z.cps.size = z.length := rfl; rw [e, sizeLine_eq]; omega)
  rcases s' with ⟨hp, g, d, tk, os⟩
  have ho : os = s.os := ho
  subst ho
  refine hR hp tk g d acc.toList _ hk hg (.refl _) (strsAre_vals ?_)
  have := vals_signs hacc
  unfold signs at this
  rw [List.map_map]
  exact this
/-- text * n -/
theorem op_mul_str : OpR X (binaryOp .Mult) (fun x y H Q => ∃ (z : Str), x = .str z ∧ y = .int 2 ∧ z.length ≤ 1000 ∧ Q (.str (z ++ z)) H) := by
  intro pins s σ H x y v u Q; intro I rx ry h
  obtain ⟨z, rfl, rfl, hz, q⟩ := h
  obtain ⟨t, rfl⟩ := rx
  obtain ⟨t', rfl⟩ := ry
  have ez : z.cps.size = z.length := rfl
  refine PySem.P.mul_str (by decide) (fun _ _ => by show ¬ ((z.length : Int) > (2 ^ 63 - 1) / 2); omega) (fun _ _ => by
    unfold Builtin.Str.tooLong
    rw [sizeLine_eq]
    refine decide_eq_false ?_
    have e2 : (2 : Int).toNat = 2 := rfl
    rw [e2]
    omega) ?_
  rw [if_neg (by decide)]
  cases hz0 : ((2 : Int) == 1 || z.length == 0)
  · rw [if_neg (by decide)]
    have e : (⟨(List.replicate (2 : Int).toNat z.cps).foldl (· ++ ·) #[]⟩ : Str) = z ++ z := by
      show (⟨(#[] ++ z.cps) ++ z.cps⟩ : Str) = ⟨z.cps ++ z.cps⟩
      rw [Array.empty_append]
    rw [e]
    refine ⟨?_, .str (z ++ z), H, I.tok _, ⟨_, rfl⟩, q⟩
    have : (z ++ z).length = z.length + z.length := by
      show (z.cps ++ z.cps).size = _
      rw [Array.size_append] <;> rfl
    rw [this, sizeLine_eq]
    omega
  · rw [if_pos rfl]
    have hz1 : z.length = 0 := by simpa using hz0
    have e : z ++ z = z := by
      have h0 : z.cps = #[] := Array.eq_empty_of_size_eq_zero hz1
      show (⟨z.cps ++ z.cps⟩ : Str) = z
      rw [h0]
      cases z
      simp at h0 ⊢
      exact h0
    rw [e] at q
    exact ⟨.str z, ⟨H, I, ⟨t, rfl⟩, q⟩⟩
end
end WW

/-! what the readings evaluate to: texts, lists of texts, walks, comprehensions -/
namespace WW
open PySem PySem.Spec PyProof.Rows L2 Evl
abbrev T := List Nat
abbrev S (l : T) : Str := SX.S l
abbrev vS (l : T) : V := .str (S l)
abbrev v1 (c : Nat) : V := .str (S [c])
theorem vS_inj {a b : T} (h : vS a = vS b) : a = b := SX.S_inj (V.str.inj h)
theorem dec_vS {a b : T} : decide (vS a = vS b) = decide (a = b) := by
  by_cases h : a = b
  · subst h; simp
  · rw [decide_eq_false h, decide_eq_false fun e => h (vS_inj e)]
theorem S_len (l : T) : (S l).length = l.length := SX.S_len l
theorem sline {n : Nat} (h : n ≤ 1000000) : n ≤ sizeLine := Nat.le_trans h (by decide)
theorem sline_lt {n : Nat} (h : n < 1000000) : n < sizeLine := Nat.lt_of_lt_of_le h (by decide)

/-! ### operators on texts -/
section
variable {K : PySem.W.Frag} {X : Cx} {σ : L2.St} {H H' : Hp} {ta tb te tx to : TE} {t u : TT} {x y z v : V}
def wAdd : R2 := fun x y H Q => ∃ i j, x = .str i ∧ y = .str j ∧ i.length + j.length ≤ sizeLine ∧ Q (.str (i ++ j)) H
theorem op_wAdd : OpR X (binaryOp .Add) wAdd := op_add_str
def wLt : R2 := fun x y H Q => ∃ i j, x = .str i ∧ y = .str j ∧ Q (.bl (decide (i.cps.toList < j.cps.toList))) H
theorem op_wLt : OpR X (compareOp .Lt) wLt := op_lt_str
def wLe : R2 := fun x y H Q => ∃ i j, x = .str i ∧ y = .str j ∧ Q (.bl (!decide (j.cps.toList < i.cps.toList))) H
theorem op_wLe : OpR X (compareOp .LtE) wLe := op_le_str
def wGt : R2 := fun x y H Q => ∃ i j, x = .str i ∧ y = .str j ∧ Q (.bl (decide (j.cps.toList < i.cps.toList))) H
theorem op_wGt : OpR X (compareOp .Gt) wGt := op_gt_str
def wIn : R2 := fun x y H Q => ∃ (c : Nat) (z : Str), x = .str ⟨#[c]⟩ ∧ y = .str z ∧ Q (.bl (decide (c ∈ z.cps.toList))) H
theorem op_wIn : OpR X (compareOp .In) wIn := op_in_sign
def wNin : R2 := fun x y H Q => ∃ (c : Nat) (z : Str), x = .str ⟨#[c]⟩ ∧ y = .str z ∧ Q (.bl (!decide (c ∈ z.cps.toList))) H
theorem op_wNin : OpR X (compareOp .NotIn) wNin := op_notIn_sign
theorem rv_add {a b : T} (h : a.length + b.length ≤ 1000000) : RV wAdd (vS a) (vS b) H (vS (a ++ b)) := fun H1 _ Q q =>
  ⟨S a, S b, rfl, rfl, by rw [S_len, S_len]; exact sline h, by rw [SX.S_cat]; exact q H1 (Ex.refl H1)⟩
theorem rv_lt {a b : T} : RV wLt (vS a) (vS b) H (.bl (decide (a < b))) := fun H1 _ Q q => ⟨S a, S b, rfl, rfl, q H1 (Ex.refl H1)⟩
theorem rv_le {a b : T} : RV wLe (vS a) (vS b) H (.bl (!decide (b < a))) := fun H1 _ Q q => ⟨S a, S b, rfl, rfl, q H1 (Ex.refl H1)⟩
theorem rv_gt {a b : T} : RV wGt (vS a) (vS b) H (.bl (decide (b < a))) := fun H1 _ Q q => ⟨S a, S b, rfl, rfl, q H1 (Ex.refl H1)⟩
theorem rv_in {c : Nat} {b : T} : RV wIn (v1 c) (vS b) H (.bl (decide (c ∈ b))) := fun H1 _ Q q => ⟨c, S b, rfl, rfl, q H1 (Ex.refl H1)⟩
theorem rv_nin {c : Nat} {b : T} : RV wNin (v1 c) (vS b) H (.bl (!decide (c ∈ b))) := fun H1 _ Q q => ⟨c, S b, rfl, rfl, q H1 (Ex.refl H1)⟩
theorem rv_eqT {a b : T} : RV rEq (vS a) (vS b) H (.bl (decide (a = b))) := fun H1 _ Q q => ⟨rfl, by rw [dec_vS]; exact q H1 (Ex.refl H1)⟩
theorem rv_neT {a b : T} : RV rNe (vS a) (vS b) H (.bl (!decide (a = b))) := fun H1 _ Q q => ⟨rfl, by rw [dec_vS]; exact q H1 (Ex.refl H1)⟩
theorem eqV_str {a b : T} : eqV (vS a) (vS b) = decide (a = b) := by
  show (S a == S b) = _
  exact SX.S_beq_eq
theorem inV_texts {a : T} : ∀ {ts : List T}, inV (vS a) (ts.map vS) = decide (a ∈ ts)
  | [] => by simp [inV]
  | b :: ts => by
    have ih := inV_texts (a := a) (ts := ts)
    show (eqV (vS b) (vS a) || inV (vS a) (ts.map vS)) = _
    rw [ih, eqV_str]
    by_cases h : b = a
    · subst h; simp
    · have h' : ¬ a = b := fun e => h e.symm
      simp [h, h']
theorem flat_texts (ts : List T) : (ts.map vS).all flatV = true := by
  rw [List.all_map]
  exact List.all_eq_true.2 fun _ _ => rfl
theorem rv_inL {a : T} {p : Addr} {ts : List T} (h : SqL K H p (ts.map vS)) : RV (rIn K false) (vS a) (.ref p) H (.bl (decide (a ∈ ts))) := by
  have e := rv_isL (x := vS a) h rfl (flat_texts ts)
  rw [inV_texts] at e
  exact e
theorem rv_inT {a : T} {p : Addr} {ts : List T} (h : SqT K H p (ts.map vS)) : RV (rIn K false) (vS a) (.ref p) H (.bl (decide (a ∈ ts))) := by
  have e := rv_isT (x := vS a) h rfl (flat_texts ts)
  rw [inV_texts] at e
  exact e
theorem rv_ix {z : T} {i : Int} {c : Nat} (h : z.length ≤ 1000000) (ha : atI z i = some c) : RV rIxS (vS z) (.int i) H (v1 c) := fun H1 _ _ q => ⟨S z, i, c, rfl, rfl, by rw [S_len]; exact sline h, ha, q H1 (Ex.refl H1)⟩
theorem rv_ixA {p : Addr} {xs : List V} {i : Int} (h : SqL K H p xs) (ha : atI xs i = some v) : RV (rIxL K) (.ref p) (.int i) H v := rv_ixL h ha
/-- slices of a text -/
theorem cut_from (z : T) (k : Nat) : cutS (S z) (some (k : Int)) none = S (z.drop k) := by
  unfold cutS
  rw [HT.sIx_nat, HT.sIx_none]
  have h1 : (S z).length = z.length := S_len z
  rw [h1]
  show (⟨((z.drop (min k z.length)).take (z.length - min k z.length)).toArray⟩ : Str) = _
  have e : z.drop (min k z.length) = z.drop k := by
    by_cases hk : k ≤ z.length
    · rw [Nat.min_eq_left hk]
    · rw [Nat.min_eq_right (by omega), List.drop_eq_nil_of_le (by omega), List.drop_eq_nil_of_le (by omega)]
  rw [e, List.take_of_length_le (by rw [List.length_drop]; omega)]
theorem cut_to (z : T) (k : Nat) : cutS (S z) none (some (k : Int)) = S (z.take k) := by
  unfold cutS
  rw [HT.sIx_nat, HT.sIx_none]
  have h1 : (S z).length = z.length := S_len z
  rw [h1]
  show (⟨((z.drop 0).take (min k z.length - 0)).toArray⟩ : Str) = _
  rw [List.drop_zero, Nat.sub_zero]
  congr 2
  by_cases hk : k ≤ z.length
  · rw [Nat.min_eq_left hk]
  · rw [Nat.min_eq_right (by omega), List.take_of_length_le (by omega), List.take_of_length_le (by omega)]
theorem sIx_m1 (n d : Nat) : HT.sIx n d (some (-1)) = n - 1 := by
  show (if (-1 : Int) < 0 then ((-1 : Int) + (n : Int)).toNat else min (-1 : Int).toNat n) = n - 1
  rw [if_pos (by decide)]
  omega
theorem cut_but (z : T) : cutS (S z) none (some (-1)) = S z.dropLast := by
  unfold cutS
  rw [sIx_m1, HT.sIx_none]
  have h1 : (S z).length = z.length := S_len z
  rw [h1]
  show (⟨((z.drop 0).take (z.length - 1 - 0)).toArray⟩ : Str) = _
  rw [List.drop_zero, Nat.sub_zero, List.dropLast_eq_take]
theorem cut_mid (z : T) : cutS (S z) (some 1) (some (-1)) = S (z.drop 1).dropLast := by
  unfold cutS
  rw [sIx_m1, show HT.sIx (S z).length 0 (some 1) = min 1 (S z).length from HT.sIx_nat _ 0 1]
  have h1 : (S z).length = z.length := S_len z
  rw [h1]
  show (⟨((z.drop (min 1 z.length)).take (z.length - 1 - min 1 z.length)).toArray⟩ : Str) = _
  congr 2
  cases z with
  | nil => rfl
  | cons c r =>
    have e : min 1 (c :: r).length = 1 := by rw [List.length_cons]; omega
    rw [e, List.dropLast_eq_take]
    show List.take ((c :: r).length - 1 - 1) r = List.take (r.length - 1) r
    rw [List.length_cons, Nat.add_sub_cancel]
theorem ev_sl {z : T} {tl th : TO} {lo hi : Option Int} {w : T} (h : Ev te σ H (vS z)) (h1 : EvO tl σ H lo) (h2 : EvO th σ H hi) (hz : z.length ≤ 1000000) (hw : cutS (S z) lo hi = S w) : Ev (L2.tSl rSlS te tl th) σ H (vS w) := fun H1 e Q q =>
  h H1 e _ fun H2 e2 => h1 H2 (e.trans e2) _ fun H3 e3 => h2 H3 ((e.trans e2).trans e3) _ fun H4 e4 => ⟨S z, rfl, by rw [S_len]; exact sline hz, by rw [hw]; exact q H4 ((e2.trans e3).trans e4)⟩
/-- ''.join(list) -/
def wJoin (K : PySem.W.Frag) : V → List V → Hp → VK → Prop := fun x xs H Q => ∃ a p, ∃ ys : List Str, x = .str a ∧ xs = [.ref p] ∧ (SqL K H p (ys.map V.str) ∨ SqT K H p (ys.map V.str)) ∧
    (ys.map (·.length)).sum + ys.length * a.length ≤ 16777216 ∧ Q (.str (Txt.join a ys)) H
theorem mt_wJoin : MtR X "str.join" (wJoin X.K) := mt_join
theorem joinL_nil : ∀ ts : List T, TL.joinL [] ts = ts.flatten
  | [] => rfl
  | [a] => by simp [TL.joinL]
  | a :: b :: r => by
    have ih := joinL_nil (b :: r)
    show a ++ ([] ++ TL.joinL [] (b :: r)) = _
    rw [ih]
    simp
theorem ev_join {ts : List T} (h0 : Ev to σ H (vS [])) (h : EvL te σ H (ts.map vS)) (hz : ts.flatten.length ≤ 1000000) : Ev (tM1 (wJoin K) to te) σ H (vS ts.flatten) := fun H1 e Q q =>
  h0 H1 e _ fun H2 e2 => ⟨⟨_, rfl⟩, h H2 (e.trans e2) _ fun p H3 _ e3 hp => ⟨S [], p, ts.map S, rfl, rfl, Or.inl (by
    rw [List.map_map]
    exact sq_of hp), by
      have e1 : ((ts.map S).map (·.length)).sum = ts.flatten.length := by
        rw [List.length_flatten, SX.lens]
      rw [e1]
      have e2 : (S []).length = 0 := S_len []
      rw [e2, Nat.mul_zero]
      exact Nat.le_trans hz (by decide), by
      rw [SX.join_S, joinL_nil]
      exact q H3 (e2.trans e3)⟩⟩
/-- len(text) -/
def wLenT : List V → Hp → VK → Prop := fun xs H Q => ∃ z, xs = [.str z] ∧ z.length ≤ sizeLine ∧ Q (.int z.length) H
theorem cr_wLenT : CallR X (.builtin "len") wLenT := call_len_str
theorem cr_wLenS : CallR X (.builtin "len") (rLenS X.K) := call_len_seq
theorem ev_lenT {z : T} (h : Ev te σ H (vS z)) (hz : z.length ≤ 1000000) : Ev (tCB wLenT (tCons te tNil)) σ H (.int (z.length : Int)) := fun H1 e Q q =>
  h H1 e _ fun H2 e2 => ⟨S z, rfl, by rw [S_len]; exact sline hz, by rw [S_len]; exact q H2 e2⟩
/-- all(list), any(list) -/
theorem ev_all {bs : List Bool} (h : EvL te σ H (bs.map V.bl)) : Ev (tCB (rAll K) (tCons te tNil)) σ H (.bl (bs.all id)) := fun H1 e Q q =>
  h H1 e _ fun p H2 _ e2 hp => ⟨p, bs, rfl, sq_of hp, q H2 e2⟩
theorem ev_any {bs : List Bool} (h : EvL te σ H (bs.map V.bl)) : Ev (tCB (rAny K) (tCons te tNil)) σ H (.bl (bs.any id)) := fun H1 e Q q =>
  h H1 e _ fun p H2 _ e2 hp => ⟨p, bs, rfl, sq_of hp, q H2 e2⟩
/-- list == [], list != [] -/
def wEqNil (K : PySem.W.Frag) : R2 := fun x y H Q => ∃ a b xs, x = .ref a ∧ y = .ref b ∧ SqL K H a xs ∧ SqL K H b [] ∧ Q (.bl xs.isEmpty) H
def wNeNil (K : PySem.W.Frag) : R2 := fun x y H Q => ∃ a b xs, x = .ref a ∧ y = .ref b ∧ SqL K H a xs ∧ SqL K H b [] ∧ Q (.bl (!xs.isEmpty)) H
theorem op_wEqNil (hu : X.A.units + 64 < cLine) : OpR X (compareOp .Eq) (wEqNil X.K) := by
  intro pins s σ H x y v u Q; intro I rx ry h
  obtain ⟨a, b, xs, rfl, rfl, h1, h2, q⟩ := h
  cases rx
  cases ry
  obtain ⟨its, rv, p1, _⟩ := I.list h1
  obtain ⟨its2, rv2, p2, _⟩ := I.list h2
  cases rv2
  have fin : ∀ b, b = xs.isEmpty → EP X pins σ Q (.bool b) s := fun b e => ⟨.bl b, H, I, rfl, by rw [e]; exact q⟩
  show wpAny _ _ (richCompare .Eq (.ref a) (.ref b)) _ _ s
  cases xs with
  | nil =>
    cases rv
    exact SeqAt.RcAt.lists (e := fun _ => true) p1.isList p2.isList rfl (by omega) (fun j h1 _ => absurd h1 (Nat.not_lt_zero _)) X.prog X.w _ _ (fin _ rfl)
  | cons x r =>
    cases rv with
    | cons _ _ => exact SeqAt.RcAt.lists_lengths p1.isList p2.isList (by simp) (by omega) X.prog X.w _ _ (fin _ rfl)
theorem op_wNeNil (hu : X.A.units + 64 < cLine) : OpR X (compareOp .NotEq) (wNeNil X.K) := by
  intro pins s σ H x y v u Q; intro I rx ry h
  obtain ⟨a, b, xs, rfl, rfl, h1, h2, q⟩ := h
  cases rx
  cases ry
  obtain ⟨its, rv, p1, _⟩ := I.list h1
  obtain ⟨its2, rv2, p2, _⟩ := I.list h2
  cases rv2
  have fin : ∀ b, b = (!xs.isEmpty) → EP X pins σ Q (.bool b) s := fun b e => ⟨.bl b, H, I, rfl, by rw [e]; exact q⟩
  show wpAny _ _ (richCompare .NotEq (.ref a) (.ref b)) _ _ s
  cases xs with
  | nil =>
    cases rv
    exact SeqAt.RcNeAt.lists (e := fun _ => true) p1.isList p2.isList rfl (by omega) (fun j h1 _ => absurd h1 (Nat.not_lt_zero _)) X.prog X.w _ _ (fin _ rfl)
  | cons x r =>
    cases rv with
    | cons _ _ => exact SeqAt.RcNeAt.lists_lengths p1.isList p2.isList (by simp) (by omega) X.prog X.w _ _ (fin _ rfl)
theorem ev_eqNil {xs : List V} (ha : EvL ta σ H xs) (hb : EvL tb σ H []) : Ev (tOp (wEqNil K) ta tb) σ H (.bl xs.isEmpty) :=
  ev_opLL ha hb fun p q H1 hp hq _ H2 e2 Q k => ⟨p, q, xs, rfl, rfl, sq_of (e2 p _ hp), sq_of (e2 q _ hq), k H2 (Ex.refl H2)⟩
theorem ev_neNil {xs : List V} (ha : EvL ta σ H xs) (hb : EvL tb σ H []) : Ev (tOp (wNeNil K) ta tb) σ H (.bl (!xs.isEmpty)) :=
  ev_opLL ha hb fun p q H1 hp hq _ H2 e2 Q k => ⟨p, q, xs, rfl, rfl, sq_of (e2 p _ hp), sq_of (e2 q _ hq), k H2 (Ex.refl H2)⟩
theorem ev_eqNilA {p : Addr} {xs : List V} (ha : Ev ta σ H (.ref p)) (hx : SqL K H p xs) (hb : EvL tb σ H []) : Ev (tOp (wEqNil K) ta tb) σ H (.bl xs.isEmpty) := fun H1 e Q k =>
  ha H1 e _ fun H2 e2 => hb H2 (e.trans e2) _ fun q H3 _ e3 hq => ⟨p, q, xs, rfl, rfl, ex_l ((e.trans e2).trans e3) hx, sq_of hq, k H3 (e2.trans e3)⟩
theorem ev_neNilA {p : Addr} {xs : List V} (ha : Ev ta σ H (.ref p)) (hx : SqL K H p xs) (hb : EvL tb σ H []) : Ev (tOp (wNeNil K) ta tb) σ H (.bl (!xs.isEmpty)) := fun H1 e Q k =>
  ha H1 e _ fun H2 e2 => hb H2 (e.trans e2) _ fun q H3 _ e3 hq => ⟨p, q, xs, rfl, rfl, ex_l ((e.trans e2).trans e3) hx, sq_of hq, k H3 (e2.trans e3)⟩
theorem el_nil : EvL (tLst tNil) σ H [] := el_lst ea_nil (Nat.zero_le _)

/-! ### what is walked: the values in order, whatever grows meanwhile -/
/-- what the base knows, and what is new behind H1, stands -/
def Keep (H H1 H2 H3 : Hp) : Prop := ∀ a o, H2 a = some o → (H a = some o ∨ H1 a = none) → H3 a = some o
theorem Keep.of_ex {H1 H2 H3 : Hp} (e : Ex H2 H3) : Keep H H1 H2 H3 := fun a o h _ => e a o h
theorem Keep.mono {H1 H2 H3 : Hp} (e : Ex H H') (k : Keep H' H1 H2 H3) : Keep H H1 H2 H3 := fun a o h c => k a o h (c.imp (e a o) id)
theorem keep_l {H1 H2 H3 : Hp} {p : Addr} {xs : List V} (e : Ex H H2) (k : Keep H H1 H2 H3) (h : SqL K H p xs) : SqL K H3 p xs := by
  rcases h with ((h | ⟨o, h⟩) | h)
  · exact Or.inl (Or.inl (k p _ (e p _ h) (.inl h)))
  · exact Or.inl (Or.inr ⟨o, k p _ (e p _ h) (.inl h)⟩)
  · exact Or.inr h
theorem keep_t {H1 H2 H3 : Hp} {p : Addr} {xs : List V} (e : Ex H H2) (k : Keep H H1 H2 H3) (h : SqT K H p xs) : SqT K H3 p xs := by
  rcases h with ((h | ⟨o, h⟩) | h)
  · exact Or.inl (Or.inl (k p _ (e p _ h) (.inl h)))
  · exact Or.inl (Or.inr ⟨o, k p _ (e p _ h) (.inl h)⟩)
  · exact Or.inr h
def EvI (wi : TI) (σ : L2.St) (H : Hp) (xs : List V) : Prop := ∀ H1, Ex H H1 → ∀ R : It → Hp → Prop, (∀ J H2, Ex H1 H2 → (∃ G, Walk J xs.length G (YAt xs) ∧ ∀ H3, Keep H H1 H2 H3 → G H3) → R J H2) → wi σ H1 R
/-- .. new pairs -/
def EvI2 (wi : TI) (σ : L2.St) (H : Hp) (ps : List (V × V)) : Prop := ∀ H1, Ex H H1 → ∀ R : It → Hp → Prop,
  (∀ J H2, Ex H1 H2 → (∃ G, Walk J ps.length G (YPair (fun i => (ps[i]?).map (·.1)) (fun i => (ps[i]?).map (·.2))) ∧ ∀ H3, Keep H H1 H2 H3 → G H3) → R J H2) → wi σ H1 R
theorem EvI.mono {wi : TI} {xs : List V} (e : Ex H H') (h : EvI wi σ H xs) : EvI wi σ H' xs := fun H1 a R q => h H1 (e.trans a) R fun J H2 e2 ⟨G, w, hG⟩ => q J H2 e2 ⟨G, w, fun H3 k => hG H3 (k.mono e)⟩
theorem ei_listA {p : Addr} {xs : List V} (h : Ev te σ H (.ref p)) (hx : SqL K H p xs) : EvI (iList K te) σ H xs := fun H1 e R q =>
  h H1 e _ fun H2 e2 => ⟨p, rfl, ⟨xs, ex_l (e.trans e2) hx⟩, q _ H2 e2 ⟨_, walk_list, fun H3 k => keep_l (e.trans e2) k hx⟩⟩
theorem ei_list {xs : List V} (h : EvL te σ H xs) : EvI (iList K te) σ H xs := fun H1 e R q =>
  h H1 e _ fun p H2 hn e2 hp => ⟨p, rfl, ⟨xs, sq_of hp⟩, q _ H2 e2 ⟨_, walk_list, fun H3 k => sq_of (k p _ hp (.inr hn))⟩⟩
theorem ei_tupA {p : Addr} {xs : List V} (h : Ev te σ H (.ref p)) (hx : SqT K H p xs) : EvI (iTup K te) σ H xs := fun H1 e R q =>
  h H1 e _ fun H2 e2 => ⟨p, rfl, ⟨xs, ex_t (e.trans e2) hx⟩, q _ H2 e2 ⟨_, walk_tup, fun H3 k => keep_t (e.trans e2) k hx⟩⟩
theorem ei_str {z : T} (h : Ev te σ H (vS z)) : EvI (iStr te) σ H (z.map v1) := fun H1 e R q =>
  h H1 e _ fun H2 e2 => ⟨S z, rfl, q _ H2 e2 ⟨fun _ => True, by
    have w := walk_str (z := S z)
    have hl : (z.map v1).length = (S z).cps.size := by simp
    rw [hl]
    refine w.mono (fun _ h => h) fun i H x H' hi _ y => ?_
    obtain ⟨e1, c, hc, e2⟩ := y
    refine ⟨e1, ?_⟩
    have hc' : z[i]? = some c := by simpa using hc
    rw [List.getElem?_map, hc', e2]
    rfl, fun _ _ => True.intro⟩⟩
theorem walk_pairs {n : Nat} {Y : Nat → V → V → Prop} {ps : List (V × V)} (hn : ps.length = n) (hY : ∀ i x y, i < n → Y i x y → ps[i]? = some (x, y)) :
    Walk (ItP n Y) ps.length (fun _ => True) (YPair (fun i => (ps[i]?).map (·.1)) (fun i => (ps[i]?).map (·.2))) := by
  subst hn
  refine ⟨fun i _ hi _ => hi, fun _ _ => rfl, fun i H v H' hi _ y => ?_⟩
  obtain ⟨T, x, y, e1, e2, e3, h⟩ := y
  have e := hY i x y hi h
  exact ⟨T, x, y, e1, e2, e3, by show Option.map (fun x => x.1) ps[i]? = _; rw [e]; rfl, by show Option.map (fun x => x.2) ps[i]? = _; rw [e]; rfl⟩
theorem ei_enumS {z : T} (h : Ev te σ H (vS z)) : EvI2 (iEnumS (tCons te tNil)) σ H (z.zipIdx.map fun p => (.int (p.2 : Nat), v1 p.1)) := fun H1 e R q =>
  h H1 e _ fun H2 e2 => ⟨S z, rfl, q _ H2 e2 ⟨_, walk_pairs (by simp) fun i x y hi hy => by
    obtain ⟨e1, c, hc, e2⟩ := hy
    have hc' : z[i]? = some c := by simpa using hc
    rw [List.getElem?_map, List.getElem?_zipIdx, hc', e1, e2]
    simp, fun _ _ => True.intro⟩⟩
theorem ei_zipS {z w : T} (h : Ev ta σ H (vS z)) (h2 : Ev tb σ H (vS w)) : EvI2 (iZipS (tCons ta (tCons tb tNil))) σ H ((z.zip w).map fun p => (v1 p.1, v1 p.2)) := fun H1 e R q =>
  h H1 e _ fun H2 e2 => h2 H2 (e.trans e2) _ fun H3 e3 => ⟨S z, S w, rfl, q _ H3 (e2.trans e3) ⟨_, walk_pairs (by simp) fun i x y hi hy => by
    obtain ⟨c, d, hc, hd, e1, e2⟩ := hy
    have hc' : z[i]? = some c := by simpa using hc
    have hd' : w[i]? = some d := by simpa using hd
    rw [List.getElem?_map, (List.getElem?_zip_eq_some (z := (c, d))).mpr ⟨hc', hd'⟩, e1, e2]
    rfl, fun _ _ => True.intro⟩⟩
theorem ei_enumL {p : Addr} {xs : List V} (h : Ev te σ H (.ref p)) (hx : SqL K H p xs) : EvI2 (iEnum K (tCons te tNil)) σ H (xs.zipIdx.map fun q => (.int (q.2 : Nat), q.1)) := fun H1 e R q =>
  h H1 e _ fun H2 e2 => ⟨p, xs, rfl, ex_l (e.trans e2) hx, q _ H2 e2 ⟨fun H => SqL K H p xs, by
    have hl : (xs.zipIdx.map fun q => (V.int (q.2 : Nat), q.1)).length = xs.length := by simp
    rw [hl]
    refine walk_enum.mono (fun _ h => h) fun i H v H' hi _ y => ?_
    obtain ⟨T, x, y, e1, e2, e3, e4, e5⟩ := y
    have e5 : xs[i]? = some y := e5
    have e4 : V.int (i : Nat) = x := Option.some.inj e4
    refine ⟨T, x, y, e1, e2, e3, ?_, ?_⟩
    · show Option.map (fun x => x.1) (List.map (fun q => (V.int (q.2 : Nat), q.1)) xs.zipIdx)[i]? = some x
      rw [List.getElem?_map, List.getElem?_zipIdx, e5, ← e4]
      simp
    · show Option.map (fun x => x.2) (List.map (fun q => (V.int (q.2 : Nat), q.1)) xs.zipIdx)[i]? = some y
      rw [List.getElem?_map, List.getElem?_zipIdx, e5]
      simp, fun H3 k => keep_l (e.trans e2) k hx⟩⟩
/-- zip of a tuple and a new tuple -/
theorem ei_zipT {p : Addr} {xs ys : List V} (h : Ev ta σ H (.ref p)) (hx : SqT K H p xs) (h2 : ∀ H1, Ex H H1 → ∀ Q : VK, (∀ r H2, Ex H1 H2 → SqT K H2 r ys → (∀ H3, Keep H H1 H2 H3 → SqT K H3 r ys) → Q (.ref r) H2) → tb σ H1 Q) :
    EvI2 (RZ.iZipA K (tCons ta (tCons tb tNil))) σ H (xs.zip ys) := fun H1 e R q =>
  h H1 e _ fun H2 e2 => h2 H2 (e.trans e2) _ fun r H3 e3 hr kr => ⟨p, r, xs, ys, rfl, .inr ⟨ex_t ((e.trans e2).trans e3) hx, hr, q _ H3 (e2.trans e3) ⟨fun H => SqT K H p xs ∧ SqT K H r ys, by
    refine ⟨fun i H hi g => ?_, fun H g => ?_, fun i H v H' hi g y => ?_⟩
    · have hz : i < xs.length ∧ i < ys.length := by rw [List.length_zip] at hi; omega
      exact ⟨xs, ys, xs[i], ys[i], g.1, g.2, List.getElem?_eq_getElem hz.1, List.getElem?_eq_getElem hz.2⟩
    · refine ⟨xs, ys, g.1, g.2, ?_⟩
      rw [List.length_zip]
      omega
    · obtain ⟨T, x, y, e1, e2, e3, e4, e5⟩ := y
      have e4 := e4 xs g.1
      have e5 := e5 ys g.2
      refine ⟨T, x, y, e1, e2, e3, ?_, ?_⟩
      · show Option.map (fun x => x.1) (xs.zip ys)[i]? = some x
        rw [(List.getElem?_zip_eq_some (z := (x, y))).mpr ⟨e4, e5⟩]
        rfl
      · show Option.map (fun x => x.2) (xs.zip ys)[i]? = some y
        rw [(List.getElem?_zip_eq_some (z := (x, y))).mpr ⟨e4, e5⟩]
        rfl, fun H4 k => ⟨keep_t ((e.trans e2).trans e3) k hx, kr H4 fun a o ha c => k a o ha (c.imp id fun c => fresh_back e2 c)⟩⟩⟩⟩
end
end WW

/-! comprehensions, loops, statements -/
namespace WW
open PySem PySem.Spec PyProof.Rows L2 Evl

section
variable {α β : Type} {K : PySem.W.Frag} {X : Cx} {σ : L2.St} {H H' : Hp} {ta tb te tx to : TE} {t u : TT} {x y z v : V} {wi wi1 : TI} {g g1 : TG} {j : Nat} {vs vs1 : List Nat}
/-- what is walked and stored at each turn -/
def EvW (wi : TI) (g : TG) (σ : L2.St) (H : Hp) (as : List α) (st : α → L2.St → L2.St) : Prop := ∀ H1, Ex H H1 → ∀ R : It → Hp → Prop,
  (∀ J H2, Ex H1 H2 → (∃ G Y, Walk J as.length G Y ∧ (∀ H3, Keep H H1 H2 H3 → G H3) ∧ ∀ i a x H3 H4, as[i]? = some a → Y i H3 x H4 → ∀ σ' (Q : L2.St → Hp → Prop), (∀ H5, Ex H3 H5 → Q (st a σ') H5) → g x σ' H4 Q) → R J H2) → wi σ H1 R
theorem ew_name {as : List α} {inj : α → V} (h : EvI wi σ H (as.map inj)) : EvW wi (gName j) σ H as (fun a σ' => σ'.set j (some (inj a))) := fun H1 e R q =>
  h H1 e R fun J H2 e2 ⟨G, w, hG⟩ => q J H2 e2 ⟨G, _, by rw [List.length_map] at w; exact w, hG, fun i a x H3 H4 ha y σ' Q k => by
    obtain ⟨e1, e2⟩ := y
    rw [List.getElem?_map, ha] at e2
    have e2 : inj a = x := Option.some.inj e2
    subst e1 e2
    exact k H4 (Ex.refl _)⟩
theorem ew_pair {as : List α} {f : α → V × V} {j1 j2 : Nat} (h : EvI2 wi σ H (as.map f)) :
    EvW wi (gTup K 2 (gCons (gName j1) (gCons (gName j2) gNil))) σ H as (fun a σ' => (σ'.set j1 (some (f a).1)).set j2 (some (f a).2)) := fun H1 e R q =>
  h H1 e R fun J H2 e2 ⟨G, w, hG⟩ => q J H2 e2 ⟨G, _, by rw [List.length_map] at w; exact w, hG, fun i a x H3 H4 ha y σ' Q k => by
    obtain ⟨T, p, r, e1, e2, e3, e4, e5⟩ := y
    have e4 : ((as.map f)[i]?).map (·.1) = some p := e4
    have e5 : ((as.map f)[i]?).map (·.2) = some r := e5
    rw [List.getElem?_map, ha] at e4 e5
    have e4 : (f a).1 = p := Option.some.inj e4
    have e5 : (f a).2 = r := Option.some.inj e5
    subst e1 e3 e4 e5
    exact ⟨T, [(f a).1, (f a).2], rfl, st_of upd_same, rfl, _, _, rfl, _, _, rfl, rfl, k _ (Ex.new e2)⟩⟩
/-- [elt for target in iter if test] -/
theorem el_lc {as : List α} {st : α → L2.St → L2.St} (p : α → Bool) (f : α → V) (h : EvW wi g σ H as st) (hz : as.length ≤ sizeLine) (hw : ∀ a ∈ as, wipe (st a (wipe σ vs)) vs = wipe σ vs)
    (ht : ∀ a ∈ as, ∀ H1, Ex H H1 → EvT t (st a (wipe σ vs)) H1 (p a)) (he : ∀ a ∈ as, p a = true → ∀ H1, Ex H H1 → Ev te (st a (wipe σ vs)) H1 (f a)) :
    EvL (tLc wi g t te vs) σ H ((as.filter p).map f) := fun H0 e Q q => h H0 e _ fun J H1 e1 ⟨G, Y, w, hG, hY⟩ Dl hD => by
  refine lc_it w (fun i H' => H1 Dl = none ∧ Ex H1 H' ∧ H' Dl = some (.lst (((as.take i).filter p).map f))) ⟨hD, Ex.new hD, upd_same⟩ (fun i H' _ pp => hG H' (Keep.of_ex pp.2.1)) (fun i x H2 H3 hi pp y => ?_) (fun H' pp => ?_)
  · obtain ⟨p1, p2, p3⟩ := pp
    have ha : as[i]? = some as[i] := List.getElem?_eq_getElem hi
    have hm : as[i] ∈ as := List.getElem_mem hi
    refine hY i as[i] x H2 H3 ha y _ _ fun H4 e4 => ⟨hw _ hm, ?_⟩
    have e5 : Ex H H4 := (e.trans e1).trans (p2.trans e4)
    have hd4 : H4 Dl = some (.lst (((as.take i).filter p).map f)) := e4 Dl _ p3
    have et : as.take (i + 1) = as.take i ++ [as[i]] := by rw [List.take_add_one, ha]; rfl
    refine ht _ hm H4 e5 H4 (Ex.refl _) _ fun H5 e6 => ?_
    cases hp : p as[i] with
    | true =>
      refine he _ hm hp H5 (e5.trans e6) H5 (Ex.refl _) _ fun H6 e7 => ⟨((as.take i).filter p).map f, e7 Dl _ (e6 Dl _ hd4), ?_, p1, Ex.mut ((p2.trans e4).trans (e6.trans e7)) p1, ?_⟩
      · rw [List.length_map]
        have l1 := List.length_filter_le p (as.take i)
        rw [List.length_take] at l1
        omega
      · rw [et, List.filter_append, List.map_append, List.filter_cons, if_pos hp]
        exact upd_same
    | false =>
      refine ⟨p1, (p2.trans e4).trans e6, ?_⟩
      rw [et, List.filter_append, List.map_append, List.filter_cons, if_neg (by rw [hp]; decide)]
      show H5 Dl = some (.lst (_ ++ []))
      rw [List.append_nil]
      exact e6 Dl _ hd4
  · obtain ⟨p1, p2, p3⟩ := pp
    rw [List.take_length] at p3
    exact q Dl H' (fresh_back e1 p1) (e1.trans p2) p3
/-- without a test -/
theorem el_lcY {as : List α} {st : α → L2.St → L2.St} (f : α → V) (h : EvW wi g σ H as st) (hz : as.length ≤ sizeLine) (hw : ∀ a ∈ as, wipe (st a (wipe σ vs)) vs = wipe σ vs)
    (he : ∀ a ∈ as, ∀ H1, Ex H H1 → Ev te (st a (wipe σ vs)) H1 (f a)) : EvL (tLc wi g tYes te vs) σ H (as.map f) := by
  have r := el_lc (t := tYes) (fun _ => true) f h hz hw (fun a _ H1 _ H2 _ Q q => q H2 (Ex.refl _)) (fun a ha _ => he a ha)
  rw [List.filter_eq_self.mpr (fun _ _ => rfl)] at r
  exact r
/-- [elt for target in iter for target1 in iter1 if test1] -/
theorem el_lc2 {as : List α} {bs : α → List β} {st : α → L2.St → L2.St} {st1 : β → L2.St → L2.St} (p : α → β → Bool) (f : α → β → V) (h : EvW wi g σ H as st) (hz : (as.flatMap bs).length ≤ sizeLine)
    (hw : ∀ a ∈ as, wipe (st a (wipe σ vs)) vs = wipe σ vs) (h1 : ∀ a ∈ as, ∀ H1, Ex H H1 → EvW wi1 g1 (st a (wipe σ vs)) H1 (bs a) st1)
    (hw1 : ∀ a ∈ as, ∀ b ∈ bs a, wipe (st1 b (wipe (st a (wipe σ vs)) vs1)) vs1 = wipe (st a (wipe σ vs)) vs1)
    (ht : ∀ a ∈ as, ∀ b ∈ bs a, ∀ H1, Ex H H1 → EvT t (st1 b (wipe (st a (wipe σ vs)) vs1)) H1 (p a b)) (he : ∀ a ∈ as, ∀ b ∈ bs a, p a b = true → ∀ H1, Ex H H1 → Ev te (st1 b (wipe (st a (wipe σ vs)) vs1)) H1 (f a b)) :
    EvL (tLc2 wi g tYes wi1 g1 t te vs vs1) σ H (as.flatMap fun a => ((bs a).filter (p a)).map (f a)) := fun H0 e Q q => h H0 e _ fun J H1 e1 ⟨G, Y, w, hG, hY⟩ Dl hD => by
  have out : ∀ i, (List.flatMap (fun a => ((bs a).filter (p a)).map (f a)) (as.take i)).length ≤ (List.flatMap bs (as.take i)).length := fun i => by
    induction as.take i with
    | nil => exact Nat.le_refl _
    | cons a r ih =>
      rw [List.flatMap_cons, List.flatMap_cons, List.length_append, List.length_append, List.length_map]
      have := List.length_filter_le (p a) (bs a)
      omega
  let R : Nat → List V := fun i => List.flatMap (fun a => ((bs a).filter (p a)).map (f a)) (as.take i)
  refine ⟨fun i m H' => m = as.length - i ∧ i ≤ as.length ∧ H1 Dl = none ∧ Ex H1 H' ∧ H' Dl = some (.lst (R i)), ⟨as.length, by simp, Nat.zero_le _, hD, Ex.new hD, upd_same⟩, ?_⟩
  rintro i m H2 ⟨rfl, hi, p1, p2, p3⟩
  have gH := hG H2 (Keep.of_ex p2)
  by_cases hlt : i < as.length
  · refine .inr ⟨w.goes i H2 hlt gH, fun H' => H1 Dl = none ∧ Ex H1 H' ∧ H' Dl = some (.lst (R (i + 1))), fun H' pp => ⟨as.length - (i + 1), by omega, rfl, hlt, pp⟩, fun x H3 yy => ?_⟩
    have ha : as[i]? = some as[i] := List.getElem?_eq_getElem hlt
    have hm : as[i] ∈ as := List.getElem_mem hlt
    generalize hai : as[i] = a at ha hm
    have et : as.take (i + 1) = as.take i ++ [a] := by rw [List.take_add_one, ha]; rfl
    refine hY i a x H2 H3 ha (w.yields i H2 x H3 hlt gH yy) _ _ fun H4 e4 => ⟨hw _ hm, ?_⟩
    show wi1 _ H4 _
    have e5 : Ex H H4 := (e.trans e1).trans (p2.trans e4)
    have hd4 : H4 Dl = some (.lst (R i)) := e4 Dl _ p3
    refine h1 a hm H (Ex.refl _) H4 e5 _ fun J1 H5 e6 ⟨G1, Y1, w1, hG1, hY1⟩ => ?_
    have e7 : Ex H H5 := e5.trans e6
    have hd5 := e6 Dl _ hd4
    have hlen : ∀ k, k < (bs a).length → (R i ++ (((bs a).take k).filter (p a)).map (f a)).length < sizeLine := fun k hk => by
      have l1 := out i
      have l2 : (List.flatMap bs (as.take (i + 1))).length ≤ (as.flatMap bs).length := by
        have e := List.take_append_drop (i + 1) as
        have : (as.flatMap bs).length = (List.flatMap bs (as.take (i + 1) ++ as.drop (i + 1))).length := by rw [e]
        rw [this, List.flatMap_append, List.length_append]
        omega
      rw [et, List.flatMap_append, List.length_append] at l2
      have l3 : (List.flatMap bs [a]).length = (bs a).length := by simp
      have l4 := List.length_filter_le (p a) ((bs a).take k)
      rw [List.length_take] at l4
      rw [List.length_append, List.length_map]
      show (R i).length + _ < _
      have l5 : (R i).length ≤ (List.flatMap bs (as.take i)).length := l1
      omega
    have hDl : H Dl = none := fresh_back (e.trans e1) p1
    have hDl4 : H4 Dl ≠ none := by rw [hd4]; exact fun z => nomatch z
    refine ⟨fun k m' H' => m' = (bs a).length - k ∧ k ≤ (bs a).length ∧ (∀ b o, b ≠ Dl → H5 b = some o → H' b = some o) ∧ H' Dl = some (.lst (R i ++ (((bs a).take k).filter (p a)).map (f a))), ⟨(bs a).length, by simp, Nat.zero_le _, fun b o _ h => h, by simpa using hd5⟩, ?_⟩
    rintro k m' H6 ⟨rfl, hk, k1, k2⟩
    have exH : ∀ {H'}, (∀ b o, b ≠ Dl → H5 b = some o → H' b = some o) → Ex H H' := fun {H'} kk b o hb => kk b o (ne_of_none hb hDl) (e7 b o hb)
    have exH1 : ∀ {H'}, (∀ b o, b ≠ Dl → H5 b = some o → H' b = some o) → Ex H1 H' := fun {H'} kk b o hb => kk b o (ne_of_none hb p1) (e6 b o (e4 b o (p2 b o hb)))
    have gI := hG1 H6 fun b o hb c => by
      refine k1 b o (fun z => ?_) hb
      subst z
      rcases c with c | c
      · rw [hDl] at c; cases c
      · exact hDl4 c
    by_cases hkl : k < (bs a).length
    · refine .inr ⟨w1.goes k H6 hkl gI, fun H' => (∀ b o, b ≠ Dl → H5 b = some o → H' b = some o) ∧ H' Dl = some (.lst (R i ++ (((bs a).take (k + 1)).filter (p a)).map (f a))), fun H' pp => ⟨(bs a).length - (k + 1), by omega, rfl, hkl, pp⟩, fun y H7 y1 => ?_⟩
      have hb : (bs a)[k]? = some (bs a)[k] := List.getElem?_eq_getElem hkl
      have hbm : (bs a)[k] ∈ bs a := List.getElem_mem hkl
      generalize hbk : (bs a)[k] = b at hb hbm
      have ek : (bs a).take (k + 1) = (bs a).take k ++ [b] := by rw [List.take_add_one, hb]; rfl
      refine hY1 k b y H6 H7 hb (w1.yields k H6 y H7 hkl gI y1) _ _ fun H8 e8 => ⟨hw1 a hm b hbm, ?_⟩
      have k8 : ∀ c o, c ≠ Dl → H5 c = some o → H8 c = some o := fun c o hc h => e8 c o (k1 c o hc h)
      have d8 := e8 Dl _ k2
      refine ht a hm b hbm H8 (exH k8) H8 (Ex.refl _) _ fun H9 e9 => ?_
      have k9 : ∀ c o, c ≠ Dl → H5 c = some o → H9 c = some o := fun c o hc h => e9 c o (k8 c o hc h)
      have d9 := e9 Dl _ d8
      cases hp : p a b with
      | true =>
        refine he a hm b hbm hp H9 (exH k9) H9 (Ex.refl _) _ fun Ha ea => ⟨_, ea Dl _ d9, hlen k hkl, fun c o hc h => ?_, ?_⟩
        · rw [upd_ne hc]
          exact ea c o (k9 c o hc h)
        · rw [upd_same, ek, List.filter_append, List.map_append, List.filter_cons, if_pos hp, List.append_assoc]
          rfl
      | false =>
        refine ⟨k9, ?_⟩
        rw [ek, List.filter_append, List.map_append, List.filter_cons, if_neg (by rw [hp]; decide)]
        show H9 Dl = some (.lst (R i ++ (_ ++ [])))
        rw [List.append_nil]
        exact d9
    · have ekl : k = (bs a).length := by omega
      subst ekl
      refine .inl ⟨w1.stops H6 gI, p1, exH1 k1, ?_⟩
      rw [k2, List.take_length]
      show some (HO.lst _) = some (.lst (List.flatMap _ (as.take (i + 1))))
      rw [et, List.flatMap_append]
      simp
      rfl
  · have ei : i = as.length := by omega
    subst ei
    refine .inl ⟨w.stops H2 gH, q Dl H2 (fresh_back e1 p1) (e1.trans p2) ?_⟩
    have e9 : R as.length = as.flatMap fun a => ((bs a).filter (p a)).map (f a) := by show List.flatMap _ (as.take as.length) = _; rw [List.take_length]
    rw [← e9]
    exact p3
end
end WW

/-! loops and statements; webs; defs -/
namespace WW
open PySem PySem.Spec PyProof.Rows L2 Evl

/-- all but l stands -/
def ExM (l : Addr) (H H' : Hp) : Prop := ∀ b o, b ≠ l → H b = some o → H' b = some o
theorem ExM.refl (l : Addr) (H : Hp) : ExM l H H := fun _ _ _ h => h
theorem ExM.of {l : Addr} {H H' : Hp} (e : Ex H H') : ExM l H H' := fun b o _ h => e b o h
theorem ExM.trans {l : Addr} {H H1 H2 : Hp} (a : ExM l H H1) (b : ExM l H1 H2) : ExM l H H2 := fun c o hc h => b c o hc (a c o hc h)
theorem ExM.upd {l : Addr} {H : Hp} {o : HO} : ExM l H (upd H l o) := fun b u hb h => by rw [upd_ne hb]; exact h
theorem ExM.ex {l : Addr} {H0 H H' : Hp} (e0 : Ex H0 H) (hl : H0 l = none) (e : ExM l H H') : Ex H0 H' := fun b o h => e b o (ne_of_none h hl) (e0 b o h)
theorem keep_of {l : Addr} {H0 H H2 H' : Hp} (hl : H0 l = none) (hn : H l ≠ none) (e : ExM l H2 H') : Keep H0 H H2 H' := fun a o h c => e a o (fun z => by
  subst z
  rcases c with c | c
  · rw [hl] at c; cases c
  · exact hn c) h

section
variable {α β : Type} {K : PySem.W.Frag} {X : Cx} {σ : L2.St} {H0 H H' : Hp} {ta tb te tx to : TE} {t u : TT} {x y z v : V} {wi wi1 : TI} {g g1 : TG} {j : Nat} {vs vs1 : List Nat} {D : Ends} {tu tw tz : TS}
/-- found.extend(list) -/
theorem s_ext {l : Addr} {xs ys : List V} (hl : H l = some (.lst xs)) (ha : Ev ta σ H (.ref l)) (h : EvL te σ H ys) (hz : xs.length + ys.length ≤ sizeLine) (k : ∀ H1, Ex H H1 → D.nx σ (upd H1 l (.lst (xs ++ ys)))) :
    tDrop (tBM K "list" rExtend ta (tCons te tNil)) D σ H := ha H (Ex.refl H) _ fun H1 e1 =>
  ⟨Or.inl ⟨rfl, xs, sq_of (e1 l _ hl)⟩, h H1 e1 _ fun p H2 _ e2 hp => ⟨l, p, xs, ys, rfl, rfl, e2 l _ (e1 l _ hl), hp, hz, k H2 (e1.trans e2)⟩⟩
theorem q_ext {l : Addr} {xs ys : List V} (hl : H l = some (.lst xs)) (ha : Ev ta σ H (.ref l)) (h : EvL te σ H ys) (hz : xs.length + ys.length ≤ sizeLine) (k : ∀ H1, Ex H H1 → tz D σ (upd H1 l (.lst (xs ++ ys)))) :
    tSeq (tDrop (tBM K "list" rExtend ta (tCons te tNil))) tz D σ H := s_ext (D := { D with nx := tz D }) hl ha h hz k
/-- a for over what is walked; only l changes -/
theorem s_forM {as : List α} {st : α → L2.St → L2.St} {l : Addr} (h : EvW wi g σ H0 as st) (e0 : Ex H0 H) (hl0 : H0 l = none) (acc : Nat → List V) (hl : H l = some (.lst (acc 0))) (Ss : Nat → L2.St → Prop) (h0 : Ss 0 σ)
    (hs : ∀ i a σ' H', as[i]? = some a → Ss i σ' → Ex H0 H' → H' l = some (.lst (acc i)) → ∀ N : L2.St → Hp → Prop, (∀ σ2 H2, Ss (i + 1) σ2 → ExM l H' H2 → H2 l = some (.lst (acc (i + 1))) → N σ2 H2) →
      tu { D with nx := N, ct := N, bk := D.nx } (st a σ') H')
    (hd : ∀ σ' H', Ss as.length σ' → ExM l H H' → H' l = some (.lst (acc as.length)) → D.nx σ' H') : tFor wi g tu D σ H :=
  h H e0 _ fun J H1 e1 ⟨G, Y, w, hG, hY⟩ => by
    have hln : H l ≠ none := by rw [hl]; exact fun z => nomatch z
    refine for_it w (fun i σ' H' => Ss i σ' ∧ ExM l H1 H' ∧ H' l = some (.lst (acc i))) ⟨h0, ExM.refl _ _, e1 l _ hl⟩ (fun i σ' H' _ p => hG H' (keep_of hl0 hln p.2.1)) (fun i x σ' H2 H3 hi p y => ?_) (fun σ' H' p => hd σ' H' p.1 ((ExM.of e1).trans p.2.1) p.2.2)
    have ha : as[i]? = some as[i] := List.getElem?_eq_getElem hi
    refine hY i as[i] x H2 H3 ha y σ' _ fun H4 e4 => ?_
    have ex4 : ExM l H1 H4 := p.2.1.trans (ExM.of e4)
    exact hs i as[i] σ' H4 ha p.1 (ExM.ex (e0.trans e1) hl0 ex4) (e4 l _ p.2.2) _ fun σ2 H5 q1 q2 q3 => ⟨q1, ex4.trans q2, q3⟩
theorem q_forM {as : List α} {st : α → L2.St → L2.St} {l : Addr} (h : EvW wi g σ H0 as st) (e0 : Ex H0 H) (hl0 : H0 l = none) (acc : Nat → List V) (hl : H l = some (.lst (acc 0))) (Ss : Nat → L2.St → Prop) (h0 : Ss 0 σ)
    (hs : ∀ i a σ' H', as[i]? = some a → Ss i σ' → Ex H0 H' → H' l = some (.lst (acc i)) → ∀ N : L2.St → Hp → Prop, (∀ σ2 H2, Ss (i + 1) σ2 → ExM l H' H2 → H2 l = some (.lst (acc (i + 1))) → N σ2 H2) →
      tu { D with nx := N, ct := N, bk := tz D } (st a σ') H')
    (hd : ∀ σ' H', Ss as.length σ' → ExM l H H' → H' l = some (.lst (acc as.length)) → tz D σ' H') : tSeq (tFor wi g tu) tz D σ H :=
  s_forM (D := { D with nx := tz D }) h e0 hl0 acc hl Ss h0 hs hd
/-- a for over what is walked; nothing that is tracked changes -/
theorem s_for0 {as : List α} {st : α → L2.St → L2.St} (h : EvW wi g σ H as st) (Ss : Nat → L2.St → Prop) (h0 : Ss 0 σ)
    (hs : ∀ i a σ' H', as[i]? = some a → Ss i σ' → Ex H H' → ∀ N : L2.St → Hp → Prop, (∀ σ2 H2, Ss (i + 1) σ2 → Ex H' H2 → N σ2 H2) → tu { D with nx := N, ct := N, bk := D.nx } (st a σ') H')
    (hd : ∀ σ' H', Ss as.length σ' → Ex H H' → D.nx σ' H') : tFor wi g tu D σ H :=
  h H (Ex.refl H) _ fun J H1 e1 ⟨G, Y, w, hG, hY⟩ => by
    refine for_it w (fun i σ' H' => Ss i σ' ∧ Ex H1 H') ⟨h0, Ex.refl _⟩ (fun i σ' H' _ p => hG H' (Keep.of_ex p.2)) (fun i x σ' H2 H3 hi p y => ?_) (fun σ' H' p => hd σ' H' p.1 (e1.trans p.2))
    have ha : as[i]? = some as[i] := List.getElem?_eq_getElem hi
    refine hY i as[i] x H2 H3 ha y σ' _ fun H4 e4 => ?_
    exact hs i as[i] σ' H4 ha p.1 (e1.trans (p.2.trans e4)) _ fun σ2 H5 q1 q2 => ⟨q1, (p.2.trans e4).trans q2⟩
theorem q_for0 {as : List α} {st : α → L2.St → L2.St} (h : EvW wi g σ H as st) (Ss : Nat → L2.St → Prop) (h0 : Ss 0 σ)
    (hs : ∀ i a σ' H', as[i]? = some a → Ss i σ' → Ex H H' → ∀ N : L2.St → Hp → Prop, (∀ σ2 H2, Ss (i + 1) σ2 → Ex H' H2 → N σ2 H2) → tu { D with nx := N, ct := N, bk := tz D } (st a σ') H')
    (hd : ∀ σ' H', Ss as.length σ' → Ex H H' → tz D σ' H') : tSeq (tFor wi g tu) tz D σ H :=
  s_for0 (D := { D with nx := tz D }) h Ss h0 hs hd
/-- range(n) as what is walked -/
theorem ei_range1 {n : Nat} (h : EvA ta' σ H [.int (n : Int)]) (hn : n ≤ 1000000) : EvI (iRng1 ta') σ H ((List.range n).map fun i => .int (i : Nat)) := fun H1 e R q =>
  h H1 e _ fun H2 e2 => ⟨(n : Int), rfl, by omega, by omega, q _ H2 e2 ⟨fun _ => True, by
    have hl : ((List.range n).map fun i => V.int (i : Nat)).length = n := by simp
    rw [hl]
    refine (walk_range (lo := 0) (n := n)).mono (fun _ h => h) fun i H x H' hi _ y => ?_
    obtain ⟨e1, e2⟩ := y
    refine ⟨e1, ?_⟩
    rw [List.getElem?_map, List.getElem?_range hi, e2]
    show some (V.int (i : Nat)) = some (V.int (0 + (i : Nat)))
    rw [Int.zero_add], fun _ _ => True.intro⟩⟩

/-! ### webs -/
/-- the pair of two letters, the lesser one first -/
def pairOf (a b : Nat) : T := if a < b then [a, b] else [b, a]
/-- a letter and those in conflict with it -/
def row (L : T) (C : List T) (a : Nat) : T := L.filter fun o => decide (o = a) || decide (pairOf a o ∈ C)
theorem mem_row {L : T} {C : List T} {a b : Nat} : b ∈ row L C a ↔ b ∈ L ∧ (b = a ∨ pairOf a b ∈ C) := by
  unfold row
  rw [List.mem_filter]
  simp
/-- what of the text the class must have -/
structure WK (K : PySem.W.Frag) (C : Addr) : Prop where
  sc : SlX.SCls K C
  s0 : ∃ p, SlX.Slot1 K C "own_close" p 0
  s1 : ∃ p, SlX.Slot1 K C "own_conflicts" p 1
  s2 : ∃ p, SlX.Slot1 K C "own_letters" p 2
  isi : SlX.SIsi K C
  ko : PySem.W.kitOne K (.ref C) (.ref C) = some true
def closeD (L : T) (C : List T) : List (L2.Key × V) := L.map fun c => (Sum.inr (S [c]), vS (row L C c))
/-- a web of the letters L and the conflicts C; its tuple of conflicts at t -/
def WebAt (K : PySem.W.Frag) (W : Addr) (H : Hp) (a t : Addr) (L : T) (C : List T) : Prop :=
  ∃ dx d, SlX.Slt H a W dx [some (.ref d), some (.ref t), some (vS L)] ∧ SqT K H t (C.map vS) ∧ H d = some (.dK (closeD L C))
theorem slt_ex {a C dx : Addr} {vs : List (Option V)} (e : Ex H H') (h : SlX.Slt H a C dx vs) : SlX.Slt H' a C dx vs := by
  rcases h with (⟨h1, h2⟩ | ⟨h1, h2⟩)
  · exact .inl ⟨e _ _ h1, h2⟩
  · exact .inr ⟨e _ _ h1, e _ _ h2⟩
theorem web_ex {W a c : Addr} {L : T} {C : List T} (e : Ex H H') (h : WebAt K W H a c L C) : WebAt K W H' a c L C := by
  obtain ⟨dx, d, h1, h2, h3⟩ := h
  exact ⟨dx, d, slt_ex e h1, ex_t e h2, e _ _ h3⟩
theorem ev_letters {W a c : Addr} {L : T} {C : List T} (k : WK K W) (h : WebAt K W H a c L C) (ha : Ev ta σ H (.ref a)) : Ev (SlX.tSl K ta "own_letters") σ H (vS L) := fun H1 e Q q =>
  ha H1 e _ fun H2 e2 => by
    obtain ⟨dx, d, h1, h2, h3⟩ := h
    obtain ⟨p, hp⟩ := k.s2
    exact ⟨a, W, dx, p, _, 2, vS L, rfl, slt_ex (e.trans e2) h1, k.sc, hp, rfl, q H2 e2⟩
theorem ev_conflicts {W a c : Addr} {L : T} {C : List T} (k : WK K W) (h : WebAt K W H a c L C) (ha : Ev ta σ H (.ref a)) : Ev (SlX.tSl K ta "own_conflicts") σ H (.ref c) := fun H1 e Q q =>
  ha H1 e _ fun H2 e2 => by
    obtain ⟨dx, d, h1, h2, h3⟩ := h
    obtain ⟨p, hp⟩ := k.s1
    exact ⟨a, W, dx, p, _, 1, .ref c, rfl, slt_ex (e.trans e2) h1, k.sc, hp, rfl, q H2 e2⟩
theorem valV_close {L0 : T} {C : List T} {c : Nat} : ∀ {L : T}, c ∈ L → valV (L.map fun c => ((Sum.inr (S [c]) : L2.Key), vS (row L0 C c))) (Sum.inr (S [c])) = some (vS (row L0 C c))
  | [], h => by cases h
  | d :: L, h => by
    unfold valV
    rw [List.map_cons, List.find?_cons]
    by_cases hd : d = c
    · subst hd
      simp
    · have hne : decide ((Sum.inr (S [d]) : L2.Key) = Sum.inr (S [c])) = false := decide_eq_false fun z => hd (by
        have := SX.S_inj (Sum.inr.inj z)
        exact List.cons.inj this |>.1)
      rw [hne]
      have hm : c ∈ L := by
        rcases List.mem_cons.1 h with z | z
        · exact absurd z.symm hd
        · exact z
      exact valV_close hm
/-- web.own_close[letter] -/
theorem ev_close {W a cc : Addr} {L : T} {C : List T} {c : Nat} (k : WK K W) (h : WebAt K W H a cc L C) (ha : Ev ta σ H (.ref a)) (hc : Ev tb σ H (v1 c)) (hm : c ∈ L) : Ev (tDGet (SlX.tSl K ta "own_close") tb) σ H (vS (row L C c)) := fun H1 e Q q =>
  ha H1 e _ fun H2 e2 => by
    obtain ⟨dx, d, h1, h2, h3⟩ := h
    obtain ⟨p, hp⟩ := k.s0
    refine ⟨a, W, dx, p, _, 0, .ref d, rfl, slt_ex (e.trans e2) h1, k.sc, hp, rfl, hc H2 (e.trans e2) _ fun H3 e3 => ⟨d, vS (row L C c), rfl, ?_, q H3 (e2.trans e3)⟩⟩
    have g := DGet.k (k := Sum.inr (S [c])) (((e.trans e2).trans e3) d _ h3)
    rw [show valV (closeD L C) (Sum.inr (S [c])) = some (vS (row L C c)) from valV_close hm] at g
    exact g
end

/-! ### defs -/
section
variable {P : Program} {w : World} {K : PySem.W.Frag} {mg : Str → Option Value} {base : Heap}
/-- a def that may be called by its name -/
abbrev Cal (P : Program) (w : World) (K : PySem.W.Frag) (mg : Str → Option Value) (base : Heap) (k : Nat) (x : Str) (sp : Sp) : Prop := C8.Cal P w K mg base k x sp []
/-- a def as it stands behind the top -/
structure DefX (K : PySem.W.Frag) (mg : Str → Option Value) (x : Str) (st : Stmt) (ps : List Str) : Prop where
  ex : ∃ (f : Addr) (fd : FuncData), L2.Fun K x x st f fd ∧ mg x = some (.ref f) ∧ Binds K fd ps []
theorem cal_of {x : Str} {st : Stmt} {N ps : List Str} {k : Nat} {sp : Sp} (F : DefX K mg x st ps) (S : FnScope N ps (defScope st)) (len : ∀ vs H Q E, sp vs H Q E → vs.length = ps.length)
    (hbody : ∀ (f : Addr) (cdv : Value) (A : Around) (outer : List Env) (s : Shared) (H : Hp) (vs : List V) (Q : VK) (E : XK), Room k (A.deeper (envOfC x (defScope st) s.heap.objs.size f cdv)) → sp vs H Q E →
      ∃ t, PSs (cxOf L2.CX0 P w K mg base N x (defScope st) f cdv A outer s H E).nox (defBody st) t ∧ t { nx := fun _ H' => Q .non H', rt := Q } (start N vs) H) : Cal P w K mg base (k + 1) x sp := by
  obtain ⟨f, fd, F, hm, b⟩ := F.ex
  exact ⟨f, fd, ps, [], F.ok S len (hbody f), hm, F.kp, b, .nil⟩
end
section
variable {X : Cx} {k j : Nat} {x : Str} {sp : Sp} {p pos : Pos} {e : Expr} {es : List Expr} {t : TA}
theorem pe_cal (c : Cal X.prog X.w X.K X.mg X.base k x sp) (hr : Room j X.A) (hk : k ≤ j) (hg : Gl X x) (ha : PA X (e :: es) t)
    (hpl : (backTo pos (starEach es X.env)).any (·.1) = false := by rfl) (he : starEach (e :: es) X.env = (false, eval e X.env) :: starEach es X.env := by rfl) (hdb : (x == ("__debug__" : Str)) = false := by decide) :
    PE X (.Call (.Name x p) (e :: es) [] pos) (tCall sp [] E0 t) := C8.pe_c c hr hk hg ha hdb he hpl
end
section
variable {K : PySem.W.Frag} {σ : L2.St} {H H' : Hp} {ta : TA}
/-- a call that gives a value, a list -/
theorem ev_cal {sp : Sp} {vs : List V} {E : XK} {z : V} (h : EvA ta σ H vs) (hs : SpV sp vs H z) : Ev (tCall sp [] E ta) σ H z := ev_call h (by rw [List.append_nil]; exact hs)
theorem el_cal {sp : Sp} {vs xs : List V} {E : XK} (h : EvA ta σ H vs) (hs : SpL sp vs H xs) : EvL (tCall sp [] E ta) σ H xs := el_call h (by rw [List.append_nil]; exact hs)
theorem retV_up {v : V} {Q : VK} (e : Ex H H') (q : ∀ H2, Ex H' H2 → Q v H2) : RetV v H' Q := q
end
end WW

/-! rules whose reading names K outright (needed inside comprehensions) -/
namespace WW
open PySem PySem.Spec PyProof.Rows L2 Evl
section
variable {X : Cx} (K : PySem.W.Frag) {o e e2 iter tg a b : Expr} {es elts : List Expr} {f : Str} {pos p tpos apos cpos : Pos} {k kk : Nat} {te tl : TE} {ta : TA} {t : TGs} {n : Nat} {T : String} {name : Str} {id : String} {r : V → List V → Hp → VK → Prop} {ro : V → List V → Hp → VK → Prop}
def rTupleS (K : PySem.W.Frag) : List V → Hp → VK → Prop := fun xs H Q => ∃ p ys, xs = [.ref p] ∧ ((SqL K H p ys ∧ ∀ l, H l = none → Q (.ref l) (upd H l (.tup ys))) ∨ (SqT K H p ys ∧ Q (.ref p) H))
theorem pe_slK (he : PE X e te) (hK : X.K = K := by rfl) (hb : attributeBase e f X.env (eval e X.env) = eval e X.env := by rfl) : PE X (.Attribute e f pos) (SlX.tSl K te f) := hK ▸ SlX.pe_sl he hb
theorem op_inK (hK : X.K = K := by rfl) : OpR X (compareOp .In) (rIn K false) := hK ▸ op_in_seq
theorem op_notInK (hK : X.K = K := by rfl) : OpR X (compareOp .NotIn) (rIn K true) := hK ▸ op_notIn_seq
theorem op_eqNilK (hu : X.A.units + 64 < cLine) (hK : X.K = K := by rfl) : OpR X (compareOp .Eq) (wEqNil K) := hK ▸ op_wEqNil hu
theorem op_neNilK (hu : X.A.units + 64 < cLine) (hK : X.K = K := by rfl) : OpR X (compareOp .NotEq) (wNeNil K) := hK ▸ op_wNeNil hu
theorem ix_listK (hK : X.K = K := by rfl) : IxR X (rIxL K) := hK ▸ ix_list
theorem sl_listK (hK : X.K = K := by rfl) : SlR X (rSlL K) := hK ▸ sl_list
theorem sl_tupAK (hK : X.K = K := by rfl) : SlR X (rSlA K) := hK ▸ sl_tupA
theorem cr_allK (hc : X.calm = true) (hK : X.K = K := by rfl) : CallR X (.builtin "all") (rAll K) := hK ▸ cr_all hc
theorem cr_anyK (hc : X.calm = true) (hK : X.K = K := by rfl) : CallR X (.builtin "any") (rAny K) := hK ▸ cr_any hc
theorem cr_lenK (hK : X.K = K := by rfl) : CallR X (.builtin "len") (rLenS K) := hK ▸ call_len_seq
theorem cr_listK (hK : X.K = K := by rfl) : CallR X (.type "list") (rListS K) := hK ▸ call_list_of
theorem cr_tupleK (hK : X.K = K := by rfl) : CallR X (.type "tuple") (rTupleS K) := hK ▸ call_tuple_of
theorem cr_isiK (hK : X.K = K := by rfl) : CallR X (.builtin "isinstance") (rIsi K) := hK ▸ call_isi
theorem cr_isiSlK (u : Value) (hK : X.K = K := by rfl) : CallR X (.builtin "isinstance") (SlX.rIsiSl K u) := hK ▸ SlX.call_isiSl u
theorem cr_sortedK (hK : X.K = K := by rfl) : CallR X (.builtin "sorted") (rSortedS K) := hK ▸ cr_sortedS
theorem mt_joinK (hK : X.K = K := by rfl) : MtR X "str.join" (wJoin K) := hK ▸ mt_wJoin
theorem pi_listK (hl : PE X e tl) (hK : X.K = K := by rfl) : PI X tg e (iList K tl) := hK ▸ pi_list hl
theorem pi_tupK (hl : PE X e tl) (hK : X.K = K := by rfl) : PI X tg e (iTup K tl) := hK ▸ pi_tup hl
theorem pg_tupK {es : List Expr} (hc : X.calm = true) (h : PGs X es t) (hK : X.K = K := by rfl) (hn : (assignEach es X.env).length = n := by rfl) (hst : (assignEach es X.env).findIdx? (·.1) = none := by rfl) : PG X (.Tuple es k pos) (gTup K n t) := hK ▸ pg_tup hc h hn hst
theorem pi_enumK (hg : Gl X "enumerate") (hm : X.mg "enumerate" = none) (ha : PA X [e] ta) (hK : X.K = K := by rfl) (hs : starEach [e] X.env = [(false, eval e X.env)] := by rfl) :
    PI X (.Tuple elts kk tpos) (.Call (.Name "enumerate" p) [e] [] pos) (iEnum K ta) := hK ▸ pi_enum hg hm ha hs
theorem pi_zipAK (hg : Gl X "zip") (hm : X.mg "zip" = none) (ha : PA X [e, e2] ta) (hK : X.K = K := by rfl)
    (hs : starEach [e, e2] X.env = (false, eval e X.env) :: starEach [e2] X.env := by rfl)
    (hpl : (backTo pos (starEach [e2] X.env)).any (·.1) = false := by rfl) :
    PI X (.Tuple elts kk tpos) (.Call (.Name "zip" p) [e, e2] [] pos) (RZ.iZipA K ta) := hK ▸ RZ.pi_zipA hg hm ha hs hpl
end
end WW

/-! the text by places -/
namespace WW
open PySem PySem.Spec PyProof.Rows L2 Evl
def topS (i : Nat) : Stmt := PySem.Challenge.pw_webwords_k07_whole_eliminations_or_rings.main.body.getD i (.Pass ⟨0, 0, 0, 0⟩)
abbrev Nsis_letter : List Str := ["value"]
abbrev sis_letter : Stmt := topS 9
theorem csis_letter : FnScope Nsis_letter ["value"] (defScope sis_letter) := ⟨rfl, rfl, rfl, by decide +kernel, rfl, by decide +kernel, by decide +kernel⟩
abbrev Nsare_ascending : List Str := ["items", "one", "other"]
abbrev sare_ascending : Stmt := topS 10
theorem csare_ascending : FnScope Nsare_ascending ["items"] (defScope sare_ascending) := ⟨rfl, rfl, rfl, by decide +kernel, rfl, by decide +kernel, by decide +kernel⟩
abbrev Nspair_of : List Str := ["one", "other"]
abbrev spair_of : Stmt := topS 13
theorem cspair_of : FnScope Nspair_of ["one", "other"] (defScope spair_of) := ⟨rfl, rfl, rfl, by decide +kernel, rfl, by decide +kernel, by decide +kernel⟩
abbrev Nspairs_of : List Str := ["letters", "other", "at", "one"]
abbrev spairs_of : Stmt := topS 14
theorem cspairs_of : FnScope Nspairs_of ["letters"] (defScope spairs_of) := ⟨rfl, rfl, rfl, by decide +kernel, rfl, by decide +kernel, by decide +kernel⟩
abbrev Nsare_letters : List Str := ["value", "sign"]
abbrev sare_letters : Stmt := topS 15
theorem csare_letters : FnScope Nsare_letters ["value"] (defScope sare_letters) := ⟨rfl, rfl, rfl, by decide +kernel, rfl, by decide +kernel, by decide +kernel⟩
abbrev Nsare_conflicts : List Str := ["letters", "value", "pairs", "one"]
abbrev sare_conflicts : Stmt := topS 16
theorem csare_conflicts : FnScope Nsare_conflicts ["letters", "value"] (defScope sare_conflicts) := ⟨rfl, rfl, rfl, by decide +kernel, rfl, by decide +kernel, by decide +kernel⟩
abbrev Nsclose_row : List Str := ["letters", "conflicts", "letter", "other"]
abbrev sclose_row : Stmt := topS 17
theorem csclose_row : FnScope Nsclose_row ["letters", "conflicts", "letter"] (defScope sclose_row) := ⟨rfl, rfl, rfl, by decide +kernel, rfl, by decide +kernel, by decide +kernel⟩
abbrev NsWeb___init__ : List Str := ["self", "letters", "conflicts", "letter"]
abbrev sWeb___init__ : Stmt := inClass (topS 19) 1
theorem csWeb___init__ : FnScope NsWeb___init__ ["self", "letters", "conflicts"] (defScope sWeb___init__) := ⟨rfl, rfl, rfl, by decide +kernel, rfl, by decide +kernel, by decide +kernel⟩
abbrev NsWeb_letters : List Str := ["self"]
abbrev sWeb_letters : Stmt := inClass (topS 19) 3
theorem csWeb_letters : FnScope NsWeb_letters ["self"] (defScope sWeb_letters) := ⟨rfl, rfl, rfl, by decide +kernel, rfl, by decide +kernel, by decide +kernel⟩
abbrev NsWeb_conflicts : List Str := ["self"]
abbrev sWeb_conflicts : Stmt := inClass (topS 19) 4
theorem csWeb_conflicts : FnScope NsWeb_conflicts ["self"] (defScope sWeb_conflicts) := ⟨rfl, rfl, rfl, by decide +kernel, rfl, by decide +kernel, by decide +kernel⟩
abbrev Nsrequire_web : List Str := ["value"]
abbrev srequire_web : Stmt := topS 20
theorem csrequire_web : FnScope Nsrequire_web ["value"] (defScope srequire_web) := ⟨rfl, rfl, rfl, by decide +kernel, rfl, by decide +kernel, by decide +kernel⟩
abbrev Nsis_loose_from : List Str := ["web", "letter", "others", "other"]
abbrev sis_loose_from : Stmt := topS 24
theorem csis_loose_from : FnScope Nsis_loose_from ["web", "letter", "others"] (defScope sis_loose_from) := ⟨rfl, rfl, rfl, by decide +kernel, rfl, by decide +kernel, by decide +kernel⟩
abbrev Nsgroups_of_one_more : List Str := ["web", "groups", "found", "group", "later", "letter"]
abbrev sgroups_of_one_more : Stmt := topS 25
theorem csgroups_of_one_more : FnScope Nsgroups_of_one_more ["web", "groups"] (defScope sgroups_of_one_more) := ⟨rfl, rfl, rfl, by decide +kernel, rfl, by decide +kernel, by decide +kernel⟩
abbrev Nsloose_groups : List Str := ["web", "found", "layer"]
abbrev sloose_groups : Stmt := topS 26
theorem csloose_groups : FnScope Nsloose_groups ["web"] (defScope sloose_groups) := ⟨rfl, rfl, rfl, by decide +kernel, rfl, by decide +kernel, by decide +kernel⟩
abbrev Nsbare_paths : List Str := ["web", "paths", "found", "path", "near", "one"]
abbrev sbare_paths : Stmt := topS 27
theorem csbare_paths : FnScope Nsbare_paths ["web", "paths"] (defScope sbare_paths) := ⟨rfl, rfl, rfl, by decide +kernel, rfl, by decide +kernel, by decide +kernel⟩
abbrev Nspaths_of_four : List Str := ["web", "paths", "turn", "path"]
abbrev spaths_of_four : Stmt := topS 28
theorem cspaths_of_four : FnScope Nspaths_of_four ["web"] (defScope spaths_of_four) := ⟨rfl, rfl, rfl, by decide +kernel, rfl, by decide +kernel, by decide +kernel⟩
abbrev Nsis_simple : List Str := ["web", "letter", "others", "near", "other", "one"]
abbrev sis_simple : Stmt := topS 29
theorem csis_simple : FnScope Nsis_simple ["web", "letter", "others"] (defScope sis_simple) := ⟨rfl, rfl, rfl, by decide +kernel, rfl, by decide +kernel, by decide +kernel⟩
abbrev Nselimination : List Str := ["web", "left", "found", "simple", "one"]
abbrev selimination : Stmt := topS 30
theorem cselimination : FnScope Nselimination ["web"] (defScope selimination) := ⟨rfl, rfl, rfl, by decide +kernel, rfl, by decide +kernel, by decide +kernel⟩
abbrev Nsis_elimination : List Str := ["web", "value", "at", "letter"]
abbrev sis_elimination : Stmt := topS 31
theorem csis_elimination : FnScope Nsis_elimination ["web", "value"] (defScope sis_elimination) := ⟨rfl, rfl, rfl, by decide +kernel, rfl, by decide +kernel, by decide +kernel⟩
abbrev Nsrings_by : List Str := ["web", "path", "near", "ends", "one"]
abbrev srings_by : Stmt := topS 32
theorem csrings_by : FnScope Nsrings_by ["web", "path"] (defScope srings_by) := ⟨rfl, rfl, rfl, by decide +kernel, rfl, by decide +kernel, by decide +kernel⟩
abbrev Nschordless_ring : List Str := ["web", "paths", "later", "rings", "path", "ring", "one"]
abbrev schordless_ring : Stmt := topS 33
theorem cschordless_ring : FnScope Nschordless_ring ["web"] (defScope schordless_ring) := ⟨rfl, rfl, rfl, by decide +kernel, rfl, by decide +kernel, by decide +kernel⟩
abbrev Nsclaw : List Str := ["web", "triples", "claws", "group", "one"]
abbrev sclaw : Stmt := topS 34
theorem csclaw : FnScope Nsclaw ["web"] (defScope sclaw) := ⟨rfl, rfl, rfl, by decide +kernel, rfl, by decide +kernel, by decide +kernel⟩
abbrev Nsis_center : List Str := ["web", "letter", "others", "other"]
abbrev sis_center : Stmt := topS 35
theorem csis_center : FnScope Nsis_center ["web", "letter", "others"] (defScope sis_center) := ⟨rfl, rfl, rfl, by decide +kernel, rfl, by decide +kernel, by decide +kernel⟩
abbrev Nsfan : List Str := ["web", "fans", "path", "one"]
abbrev sfan : Stmt := topS 36
theorem csfan : FnScope Nsfan ["web"] (defScope sfan) := ⟨rfl, rfl, rfl, by decide +kernel, rfl, by decide +kernel, by decide +kernel⟩
abbrev Ns_law_dice : List Str := ["_law_script", "_law_spot", "_law_cell", "_law_left"]
abbrev s_law_dice : Stmt := topS 38
theorem cs_law_dice : FnScope Ns_law_dice ["_law_script", "_law_spot"] (defScope s_law_dice) := ⟨rfl, rfl, rfl, by decide +kernel, rfl, by decide +kernel, by decide +kernel⟩
abbrev Ns_law_roll : List Str := ["_law_dice_here", "_law_total", "_law_one", "_law_two", "_law_found"]
abbrev s_law_roll : Stmt := topS 39
theorem cs_law_roll : FnScope Ns_law_roll ["_law_dice_here", "_law_total"] (defScope s_law_roll) := ⟨rfl, rfl, rfl, by decide +kernel, rfl, by decide +kernel, by decide +kernel⟩
abbrev Ns_law_mixed : List Str := ["_law_dice_here", "_law_items", "_law_turn", "_law_left", "_law_found"]
abbrev s_law_mixed : Stmt := topS 40
theorem cs_law_mixed : FnScope Ns_law_mixed ["_law_dice_here", "_law_items"] (defScope s_law_mixed) := ⟨rfl, rfl, rfl, by decide +kernel, rfl, by decide +kernel, by decide +kernel⟩
abbrev Ns_law_some : List Str := ["_law_dice_here", "_law_items", "_law_item"]
abbrev s_law_some : Stmt := topS 41
theorem cs_law_some : FnScope Ns_law_some ["_law_dice_here", "_law_items"] (defScope s_law_some) := ⟨rfl, rfl, rfl, by decide +kernel, rfl, by decide +kernel, by decide +kernel⟩
abbrev Ns_law_pairs : List Str := ["_law_letters", "_law_found", "_law_at", "_law_one", "_law_other"]
abbrev s_law_pairs : Stmt := topS 42
theorem cs_law_pairs : FnScope Ns_law_pairs ["_law_letters"] (defScope s_law_pairs) := ⟨rfl, rfl, rfl, by decide +kernel, rfl, by decide +kernel, by decide +kernel⟩
abbrev Ns_law_conflicts : List Str := ["_law_dice_here", "_law_letters", "_law_pairs_here", "_law_way", "_law_order", "_law_many", "_law_pair"]
abbrev s_law_conflicts : Stmt := topS 43
theorem cs_law_conflicts : FnScope Ns_law_conflicts ["_law_dice_here", "_law_letters"] (defScope s_law_conflicts) := ⟨rfl, rfl, rfl, by decide +kernel, rfl, by decide +kernel, by decide +kernel⟩
abbrev Ns_law_clash : List Str := ["_law_conflicts_here", "_law_one", "_law_other"]
abbrev s_law_clash : Stmt := topS 44
theorem cs_law_clash : FnScope Ns_law_clash ["_law_conflicts_here", "_law_one", "_law_other"] (defScope s_law_clash) := ⟨rfl, rfl, rfl, by decide +kernel, rfl, by decide +kernel, by decide +kernel⟩
abbrev Ns_law_any_letters : List Str := ["_law_dice_here", "_law_least", "_law_most", "_law_total"]
abbrev s_law_any_letters : Stmt := topS 45
theorem cs_law_any_letters : FnScope Ns_law_any_letters ["_law_dice_here", "_law_least", "_law_most"] (defScope s_law_any_letters) := ⟨rfl, rfl, rfl, by decide +kernel, rfl, by decide +kernel, by decide +kernel⟩
abbrev Ns_law_bare_paths : List Str := ["_law_letters", "_law_conflicts_here", "_law_length", "_law_found", "_law_turn", "_law_later", "_law_path", "_law_letter", "_law_near_here", "_law_one", "_law_two"]
abbrev s_law_bare_paths : Stmt := topS 46
theorem cs_law_bare_paths : FnScope Ns_law_bare_paths ["_law_letters", "_law_conflicts_here", "_law_length"] (defScope s_law_bare_paths) := ⟨rfl, rfl, rfl, by decide +kernel, rfl, by decide +kernel, by decide +kernel⟩
abbrev Ns_law_near : List Str := ["_law_conflicts_here", "_law_letter", "_law_others", "_law_one"]
abbrev s_law_near : Stmt := topS 47
theorem cs_law_near : FnScope Ns_law_near ["_law_conflicts_here", "_law_letter", "_law_others"] (defScope s_law_near) := ⟨rfl, rfl, rfl, by decide +kernel, rfl, by decide +kernel, by decide +kernel⟩
abbrev Ns_law_eliminates : List Str := ["_law_letters", "_law_conflicts_here", "_law_order", "_law_at", "_law_letter", "_law_near_here", "_law_one"]
abbrev s_law_eliminates : Stmt := topS 48
theorem cs_law_eliminates : FnScope Ns_law_eliminates ["_law_letters", "_law_conflicts_here", "_law_order"] (defScope s_law_eliminates) := ⟨rfl, rfl, rfl, by decide +kernel, rfl, by decide +kernel, by decide +kernel⟩
abbrev Ns_law_rings : List Str := ["_law_letters", "_law_conflicts_here", "_law_size", "_law_found", "_law_path", "_law_ends", "_law_one"]
abbrev s_law_rings : Stmt := topS 49
theorem cs_law_rings : FnScope Ns_law_rings ["_law_letters", "_law_conflicts_here"] (defScope s_law_rings) := ⟨rfl, rfl, rfl, by decide +kernel, rfl, by decide +kernel, by decide +kernel⟩
abbrev Ns_law_claws : List Str := ["_law_letters", "_law_conflicts_here", "_law_found", "_law_one", "_law_near_here", "_law_at", "_law_first_here", "_law_second", "_law_last", "_law_third"]
abbrev s_law_claws : Stmt := topS 50
theorem cs_law_claws : FnScope Ns_law_claws ["_law_letters", "_law_conflicts_here"] (defScope s_law_claws) := ⟨rfl, rfl, rfl, by decide +kernel, rfl, by decide +kernel, by decide +kernel⟩
abbrev Ns_law_fans : List Str := ["_law_letters", "_law_conflicts_here", "_law_found", "_law_path", "_law_one"]
abbrev s_law_fans : Stmt := topS 51
theorem cs_law_fans : FnScope Ns_law_fans ["_law_letters", "_law_conflicts_here"] (defScope s_law_fans) := ⟨rfl, rfl, rfl, by decide +kernel, rfl, by decide +kernel, by decide +kernel⟩
abbrev Ns_law_first : List Str := ["_law_conflicts_here", "_law_letter", "_law_left", "_law_near_here", "_law_one"]
abbrev s_law_first : Stmt := topS 53
theorem cs_law_first : FnScope Ns_law_first ["_law_conflicts_here", "_law_letter", "_law_left"] (defScope s_law_first) := ⟨rfl, rfl, rfl, by decide +kernel, rfl, by decide +kernel, by decide +kernel⟩
abbrev Ns_law_right : List Str := ["_law_dice_here", "_law_web", "_law_rings_here", "_law_at", "_law_turn", "_law_value", "_law_letters", "_law_conflicts_here", "_law_order", "_law_ring", "_law_less", "_law_drawn_here", "_law_told", "_law_claws_here", "_law_fans_here", "_law_spot", "_law_one"]
abbrev s_law_right : Stmt := topS 52
theorem cs_law_right : FnScope Ns_law_right ["_law_dice_here", "_law_web"] (defScope s_law_right) := ⟨rfl, rfl, rfl, by decide +kernel, rfl, by decide +kernel, by decide +kernel⟩
abbrev Ns_law_drawn : List Str := ["_law_dice_here", "_law_letters", "_law_way", "_law_order", "_law_found", "_law_at", "_law_letter", "_law_spot", "_law_kept", "_law_other", "_law_size", "_law_one", "_law_pair"]
abbrev s_law_drawn : Stmt := topS 54
theorem cs_law_drawn : FnScope Ns_law_drawn ["_law_dice_here", "_law_letters", "_law_way"] (defScope s_law_drawn) := ⟨rfl, rfl, rfl, by decide +kernel, rfl, by decide +kernel, by decide +kernel⟩
abbrev Ns_law_case : List Str := ["_law_dice_here", "_law_way", "_law_letters", "_law_web"]
abbrev s_law_case : Stmt := topS 55
theorem cs_law_case : FnScope Ns_law_case ["_law_dice_here"] (defScope s_law_case) := ⟨rfl, rfl, rfl, by decide +kernel, rfl, by decide +kernel, by decide +kernel⟩
abbrev Nslaw : List Str := ["_law_script", "_law_spot"]
abbrev slaw : Stmt := topS 56
theorem cslaw : FnScope Nslaw ["_law_script"] (defScope slaw) := ⟨rfl, rfl, rfl, by decide +kernel, rfl, by decide +kernel, by decide +kernel⟩
theorem bt_len : bootBuiltins "len" = some (.builtin "len") := by decide +kernel
theorem bt_all : bootBuiltins "all" = some (.builtin "all") := by decide +kernel
theorem bt_any : bootBuiltins "any" = some (.builtin "any") := by decide +kernel
theorem bt_min : bootBuiltins "min" = some (.builtin "min") := by decide +kernel
theorem bt_max : bootBuiltins "max" = some (.builtin "max") := by decide +kernel
theorem bt_sorted : bootBuiltins "sorted" = some (.builtin "sorted") := by decide +kernel
theorem bt_isinstance : bootBuiltins "isinstance" = some (.builtin "isinstance") := by decide +kernel
theorem bt_abs : bootBuiltins "abs" = some (.builtin "abs") := by decide +kernel
theorem bt_list : bootBuiltins "list" = some (.type "list") := by decide +kernel
theorem bt_tuple : bootBuiltins "tuple" = some (.type "tuple") := by decide +kernel
theorem bt_set : bootBuiltins "set" = some (.type "set") := by decide +kernel
theorem bt_str : bootBuiltins "str" = some (.type "str") := by decide +kernel
theorem bt_int : bootBuiltins "int" = some (.type "int") := by decide +kernel
theorem bt_bool : bootBuiltins "bool" = some (.type "bool") := by decide +kernel
/-- what the top has written, besides the defs -/
structure Top (K : PySem.W.Frag) (mg : Str → Option Value) (W : Addr) : Prop where
  b_len : mg "len" = none
  b_all : mg "all" = none
  b_any : mg "any" = none
  b_min : mg "min" = none
  b_max : mg "max" = none
  b_sorted : mg "sorted" = none
  b_isinstance : mg "isinstance" = none
  b_abs : mg "abs" = none
  b_list : mg "list" = none
  b_tuple : mg "tuple" = none
  b_set : mg "set" = none
  b_str : mg "str" = none
  b_int : mg "int" = none
  b_bool : mg "bool" = none
  b_range : mg "range" = none
  b_enumerate : mg "enumerate" = none
  b_zip : mg "zip" = none
  webC : mg "Web" = some (.ref W)
  exM : ∃ u, mg "MAX_LETTERS" = some u ∧ RelV (.int 10) u
  exR : ∃ u, mg "LEAST_RING" = some u ∧ RelV (.int 4) u
section
variable {K : PySem.W.Frag} {mg : Str → Option Value} {W : Addr}
noncomputable def Top.uM (g : Top K mg W) : Value := g.exM.choose
noncomputable def Top.uR (g : Top K mg W) : Value := g.exR.choose
theorem Top.MAX_LETTERS (g : Top K mg W) : mg "MAX_LETTERS" = some g.uM := g.exM.choose_spec.1
theorem Top.rMAX_LETTERS (g : Top K mg W) : RelV (.int 10) g.uM := g.exM.choose_spec.2
theorem Top.LEAST_RING (g : Top K mg W) : mg "LEAST_RING" = some g.uR := g.exR.choose_spec.1
theorem Top.rLEAST_RING (g : Top K mg W) : RelV (.int 4) g.uR := g.exR.choose_spec.2
end
/-! ### more of what evaluates to what -/
section
variable {K : PySem.W.Frag} {X : Cx} {σ : L2.St} {H H' : Hp} {ta tb tc te tx to : TE} {t u : TT} {x y z v : V} {r r' : R2}
theorem ev_chain {a b : Bool} (ha : Ev ta σ H x) (hb : Ev tb σ H y) (hr : RV r x y H (.bl a)) (hc : Ev tc σ H z) (hr' : RV r' y z H (.bl b)) : Ev (tChain r r' ta tb tc) σ H (.bl (a && b)) := fun H1 e Q q =>
  ha H1 e _ fun H2 e2 => hb H2 (e.trans e2) _ fun H3 e3 => hr H3 ((e.trans e2).trans e3) _ fun H4 e4 => ⟨a, rfl, by
    have e5 : Ex H H4 := ((e.trans e2).trans e3).trans e4
    have e6 : Ex H1 H4 := (e2.trans e3).trans e4
    cases a with
    | true =>
      show tc σ H4 _
      exact hc H4 e5 _ fun H5 e7 => hr' H5 (e5.trans e7) Q fun H6 e8 => q H6 ((e6.trans e7).trans e8)
    | false =>
      show Q (.bl false) H4
      exact q H4 e6⟩
theorem ev_isStr {l : T} (ha : Ev ta σ H (vS l)) (hb : Ev tb σ H (.ty "str")) : Ev (tCB (rIsi K) (tCons ta (tCons tb tNil))) σ H (.bl true) := fun H1 e Q q =>
  ha H1 e _ fun H2 e2 => hb H2 (e.trans e2) _ fun H3 e3 => ⟨_, _, _, _, true, rfl, .ty "str", .base (.str _), kit_ty (by decide +kernel), q H3 (e2.trans e3)⟩
theorem ev_andV1 {a : Bool} (h1 : Ev ta σ H (.bl a)) : Ev ta σ H (.bl a) := h1
end
end WW

/-! comprehensions of texts, of truths -/
namespace WW
open PySem PySem.Spec PyProof.Rows L2 Evl
section
variable {α β : Type} {K : PySem.W.Frag} {X : Cx} {σ : L2.St} {H H' : Hp} {ta tb te tx to : TE} {t u : TT} {x y z v : V} {wi wi1 : TI} {g g1 : TG} {j : Nat} {vs vs1 : List Nat}
theorem el_lcT {as : List α} {st : α → L2.St → L2.St} (p : α → Bool) (f : α → T) (h : EvW wi g σ H as st) (hz : as.length ≤ sizeLine) (hw : ∀ a ∈ as, wipe (st a (wipe σ vs)) vs = wipe σ vs)
    (ht : ∀ a ∈ as, ∀ H1, Ex H H1 → EvT t (st a (wipe σ vs)) H1 (p a)) (he : ∀ a ∈ as, p a = true → ∀ H1, Ex H H1 → Ev te (st a (wipe σ vs)) H1 (vS (f a))) :
    EvL (tLc wi g t te vs) σ H (((as.filter p).map f).map vS) := by
  rw [List.map_map]
  exact el_lc p (fun a => vS (f a)) h hz hw ht he
/-- .. the item itself, a letter -/
theorem el_lcC {as : T} {st : Nat → L2.St → L2.St} (p : Nat → Bool) (h : EvW wi g σ H as st) (hz : as.length ≤ sizeLine) (hw : ∀ a ∈ as, wipe (st a (wipe σ vs)) vs = wipe σ vs)
    (ht : ∀ a ∈ as, ∀ H1, Ex H H1 → EvT t (st a (wipe σ vs)) H1 (p a)) (he : ∀ a ∈ as, p a = true → ∀ H1, Ex H H1 → Ev te (st a (wipe σ vs)) H1 (v1 a)) :
    EvL (tLc wi g t te vs) σ H ((as.filter p).map v1) := el_lc p v1 h hz hw ht he
theorem el_lcTY {as : List α} {st : α → L2.St → L2.St} (f : α → T) (h : EvW wi g σ H as st) (hz : as.length ≤ sizeLine) (hw : ∀ a ∈ as, wipe (st a (wipe σ vs)) vs = wipe σ vs)
    (he : ∀ a ∈ as, ∀ H1, Ex H H1 → Ev te (st a (wipe σ vs)) H1 (vS (f a))) : EvL (tLc wi g tYes te vs) σ H ((as.map f).map vS) := by
  rw [List.map_map]
  exact el_lcY (fun a => vS (f a)) h hz hw he
theorem el_lcBY {as : List α} {st : α → L2.St → L2.St} (f : α → Bool) (h : EvW wi g σ H as st) (hz : as.length ≤ sizeLine) (hw : ∀ a ∈ as, wipe (st a (wipe σ vs)) vs = wipe σ vs)
    (he : ∀ a ∈ as, ∀ H1, Ex H H1 → Ev te (st a (wipe σ vs)) H1 (.bl (f a))) : EvL (tLc wi g tYes te vs) σ H ((as.map f).map V.bl) := by
  rw [List.map_map]
  exact el_lcY (fun a => .bl (f a)) h hz hw he
theorem et_yes : EvT tYes σ H true := fun H1 _ Q q => q H1 (Ex.refl _)
theorem el_lc2T {as : List α} {bs : α → List β} {st : α → L2.St → L2.St} {st1 : β → L2.St → L2.St} (p : α → β → Bool) (f : α → β → T) (h : EvW wi g σ H as st) (hz : (as.flatMap bs).length ≤ sizeLine)
    (hw : ∀ a ∈ as, wipe (st a (wipe σ vs)) vs = wipe σ vs) (h1 : ∀ a ∈ as, ∀ H1, Ex H H1 → EvW wi1 g1 (st a (wipe σ vs)) H1 (bs a) st1)
    (hw1 : ∀ a ∈ as, ∀ b ∈ bs a, wipe (st1 b (wipe (st a (wipe σ vs)) vs1)) vs1 = wipe (st a (wipe σ vs)) vs1)
    (ht : ∀ a ∈ as, ∀ b ∈ bs a, ∀ H1, Ex H H1 → EvT t (st1 b (wipe (st a (wipe σ vs)) vs1)) H1 (p a b)) (he : ∀ a ∈ as, ∀ b ∈ bs a, p a b = true → ∀ H1, Ex H H1 → Ev te (st1 b (wipe (st a (wipe σ vs)) vs1)) H1 (vS (f a b))) :
    EvL (tLc2 wi g tYes wi1 g1 t te vs vs1) σ H ((as.flatMap fun a => ((bs a).filter (p a)).map (f a)).map vS) := by
  rw [List.map_flatMap]
  have e : (fun a => List.map vS (((bs a).filter (p a)).map (f a))) = fun a => ((bs a).filter (p a)).map (fun b => vS (f a b)) := by
    funext a
    rw [List.map_map]
    rfl
  rw [e]
  exact el_lc2 p (fun a b => vS (f a b)) h hz hw h1 hw1 ht he
theorem el_lc2TY {as : List α} {bs : α → List β} {st : α → L2.St → L2.St} {st1 : β → L2.St → L2.St} (f : α → β → T) (h : EvW wi g σ H as st) (hz : (as.flatMap bs).length ≤ sizeLine)
    (hw : ∀ a ∈ as, wipe (st a (wipe σ vs)) vs = wipe σ vs) (h1 : ∀ a ∈ as, ∀ H1, Ex H H1 → EvW wi1 g1 (st a (wipe σ vs)) H1 (bs a) st1)
    (hw1 : ∀ a ∈ as, ∀ b ∈ bs a, wipe (st1 b (wipe (st a (wipe σ vs)) vs1)) vs1 = wipe (st a (wipe σ vs)) vs1)
    (he : ∀ a ∈ as, ∀ b ∈ bs a, ∀ H1, Ex H H1 → Ev te (st1 b (wipe (st a (wipe σ vs)) vs1)) H1 (vS (f a b))) :
    EvL (tLc2 wi g tYes wi1 g1 tYes te vs vs1) σ H ((as.flatMap fun a => (bs a).map (f a)).map vS) := by
  have r := el_lc2T (t := tYes) (fun _ _ => true) f h hz hw h1 hw1 (fun _ _ _ _ _ _ => et_yes) (fun a ha b hb _ => he a ha b hb)
  have e : (fun a => ((bs a).filter fun _ => true).map (f a)) = fun a => (bs a).map (f a) := by
    funext a
    rw [List.filter_eq_self.2 fun _ _ => rfl]
  rw [e] at r
  exact r
theorem el_lc2BY {as : List α} {bs : α → List β} {st : α → L2.St → L2.St} {st1 : β → L2.St → L2.St} (f : α → β → Bool) (h : EvW wi g σ H as st) (hz : (as.flatMap bs).length ≤ sizeLine)
    (hw : ∀ a ∈ as, wipe (st a (wipe σ vs)) vs = wipe σ vs) (h1 : ∀ a ∈ as, ∀ H1, Ex H H1 → EvW wi1 g1 (st a (wipe σ vs)) H1 (bs a) st1)
    (hw1 : ∀ a ∈ as, ∀ b ∈ bs a, wipe (st1 b (wipe (st a (wipe σ vs)) vs1)) vs1 = wipe (st a (wipe σ vs)) vs1)
    (he : ∀ a ∈ as, ∀ b ∈ bs a, ∀ H1, Ex H H1 → Ev te (st1 b (wipe (st a (wipe σ vs)) vs1)) H1 (.bl (f a b))) :
    EvL (tLc2 wi g tYes wi1 g1 tYes te vs vs1) σ H ((as.flatMap fun a => (bs a).map (f a)).map V.bl) := by
  rw [List.map_flatMap]
  have e : (fun a => List.map V.bl ((bs a).map (f a))) = fun a => ((bs a).filter fun _ => true).map (fun b => V.bl (f a b)) := by
    funext a
    rw [List.map_map, List.filter_eq_self.mpr (fun _ _ => rfl)]
    rfl
  rw [e]
  exact el_lc2 (fun _ _ => true) (fun a b => .bl (f a b)) h hz hw h1 hw1 (fun _ _ _ _ _ _ => et_yes) (fun a ha b hb _ => he a ha b hb)
/-- a slice of a tuple: new, or itself -/
theorem eu_slA {p : Addr} {xs : List V} {tl th : TO} {lo hi : Option Int} (h : Ev te σ H (.ref p)) (hx : SqT K H p xs) (h1 : EvO tl σ H lo) (h2 : EvO th σ H hi) :
    ∀ H1, Ex H H1 → ∀ Q : VK, (∀ r H2, Ex H1 H2 → SqT K H2 r (cutV xs lo hi) → (∀ H3, Keep H H1 H2 H3 → SqT K H3 r (cutV xs lo hi)) → Q (.ref r) H2) → L2.tSl (rSlA K) te tl th σ H1 Q := fun H1 e Q q =>
  h H1 e _ fun H2 e2 => h1 H2 (e.trans e2) _ fun H3 e3 => h2 H3 ((e.trans e2).trans e3) _ fun H4 e4 => by
    have e5 : Ex H H4 := ((e.trans e2).trans e3).trans e4
    have e6 : Ex H1 H4 := (e2.trans e3).trans e4
    have g4 : SqT K H4 p xs := ex_t e5 hx
    refine ⟨p, xs, rfl, g4, fun hw => ?_, fun hw r hr => ?_⟩
    · have ec : cutV xs lo hi = xs := by
        unfold cutV
        rw [hw.1, hw.2]
        show (xs.drop 0).take (xs.length - 0) = xs
        rw [List.drop_zero]; rw [Nat.sub_zero, List.take_length]
      refine q p H4 e6 (by rw [ec]; exact g4) fun H5 k => ?_
      rw [ec]
      exact keep_t e5 k hx
    · exact q r _ (e6.trans (Ex.new hr)) (st_of upd_same) fun H5 k => st_of (k r _ upd_same (.inr (fresh_back e6 hr)))
theorem cutV_from {xs : List V} (k : Nat) : cutV xs (some (k : Int)) none = xs.drop k := by
  unfold cutV
  rw [HT.sIx_nat, HT.sIx_none]
  have e : xs.drop (min k xs.length) = xs.drop k := by
    by_cases hk : k ≤ xs.length
    · rw [Nat.min_eq_left hk]
    · rw [Nat.min_eq_right (by omega), List.drop_eq_nil_of_le (by omega), List.drop_eq_nil_of_le (by omega)]
  rw [e, List.take_of_length_le (by rw [List.length_drop]; omega)]
theorem cutV_to {xs : List V} (k : Nat) : cutV xs none (some (k : Int)) = xs.take k := by
  unfold cutV
  rw [HT.sIx_nat, HT.sIx_none]
  rw [List.drop_zero, Nat.sub_zero]
  by_cases hk : k ≤ xs.length
  · rw [Nat.min_eq_left hk]
  · rw [Nat.min_eq_right (by omega), List.take_of_length_le (by omega), List.take_of_length_le (by omega)]
end
end WW

/-! what the program's defs compute, in plain Lean -/
namespace WW
def isLet (l : T) : Bool := decide (l.length = 1) && (!decide (l < [97]) && !decide ([122] < l))
def ascT (z : T) : Bool := ((z.zip (z.drop 1)).map fun p => decide ([p.1] < [p.2])).all id
def ascL (ts : List T) : Bool := ((ts.zip (ts.drop 1)).map fun p => decide (p.1 < p.2)).all id
def pairsOf (L : T) : List T := L.zipIdx.flatMap fun p => (L.drop (p.2 + 1)).map fun o => [p.1, o]
def areLet (l : T) : Bool := (l.map fun c => isLet [c]).all id && ascT l
def areConf (L : T) (C : List T) : Bool := (C.map fun c => decide (c ∈ pairsOf L)).all id && ascL C
def looseFrom (L : T) (C : List T) (c : Nat) (others : T) : Bool := (others.map fun o => !decide (o ∈ row L C c)).all id
def center (L : T) (C : List T) (c : Nat) (others : T) : Bool := !decide (c ∈ others) && (others.map fun o => decide (o ∈ row L C c)).all id
def nearOf (L : T) (C : List T) (c : Nat) (others : T) : T := others.filter fun o => decide (o ∈ row L C c)
def simple (L : T) (C : List T) (c : Nat) (others : T) : Bool := ((nearOf L C c others).flatMap fun a => (nearOf L C c others).map fun b => decide (a ∈ row L C b)).all id
end WW

/-! the walk: the smallest defs -/
namespace WW
open PySem PySem.Spec PyProof.Rows L2 Evl
section
variable {P : Program} {w : World} {K : PySem.W.Frag} {mg : Str → Option Value} {base : Heap} {W : Addr}
theorem slen {n : Nat} (h : n ≤ 1000) : n ≤ sizeLine := Nat.le_trans h (by decide)
def spIsLetter : Sp := fun vs H Q _ => ∃ l : T, vs = [vS l] ∧ l.length ≤ 1000 ∧ RetV (.bl (isLet l)) H Q
theorem cal_is_letter (g : Top K mg W) (F : DefX K mg "is_letter" sis_letter ["value"]) : Cal P w K mg base 1 "is_letter" spIsLetter :=
  cal_of (k := 0) F csis_letter (fun vs H Q E h => by obtain ⟨l, rfl, _⟩ := h; rfl) fun f cdv A outer s H vs Q E hr h => by
    obtain ⟨l, rfl, hl, q⟩ := h
    refine ⟨_, (pss_one (ps_ret (pe_and (pe_callB (cr_isiK K) (by rfl) g.b_isinstance bt_isinstance (pa_cons (pv 0) (pa_cons (pe_bltn (v := .ty "str") (by rfl) g.b_str bt_str rfl) pa_nil))) (pe_and (pe_cmpR op_eq (pe_callB cr_wLenT (by rfl) g.b_len bt_len (pa_cons (pv 0) pa_nil)) pe_int (by rfl)) (pe_one (pe_chain op_wLe op_wLe pe_str (pv 0) pe_str)))))), ?_⟩
    refine s_ret (v := .bl (isLet l)) ?_ q
    refine ev_is (ev_andV (ev_isStr (ev_var rfl) ev_c) fun _ => ev_andV (ev_op (ev_lenT (ev_var rfl) (by omega)) ev_c (rv_eq rfl)) fun _ => ev_chain ev_c (ev_var rfl) (rv_le (a := [97])) ev_c (rv_le (b := [122]))) ?_
    have e : decide (V.int (l.length : Int) = V.int 1) = decide (l.length = 1) := by
      by_cases h : l.length = 1
      · rw [h]; rfl
      · rw [decide_eq_false h, decide_eq_false]
        intro z
        have := V.int.inj z
        omega
    rw [e, Bool.true_and]
    rfl
def spAscT : Sp := fun vs H Q _ => ∃ z : T, vs = [vS z] ∧ z.length ≤ 1000 ∧ RetV (.bl (ascT z)) H Q
theorem cal_ascT (g : Top K mg W) (F : DefX K mg "are_ascending" sare_ascending ["items"]) : Cal P w K mg base 1 "are_ascending" spAscT :=
  cal_of (k := 0) F csare_ascending (fun vs H Q E h => by obtain ⟨l, rfl, _⟩ := h; rfl) fun f cdv A outer s H vs Q E hr h => by
    obtain ⟨z, rfl, hz, q⟩ := h
    refine ⟨_, (pss_one (ps_ret (pe_callB (cr_allK K rfl) (by rfl) g.b_all bt_all (pa_cons (pe_lc (own := [("one", 1), ("other", 2)]) rfl csare_ascending.nd (pi_zipS (by rfl) g.b_zip (pa_cons (pv 0) (pa_cons (pe_slice sl_str (pv 0) (po_some pe_int) po_none) pa_nil))) (blkOk_by (by kernel_rfl)) (fun _ _ _ _ _ => (pg_tupK K (n := 2) rfl (pgs_cons (pg_name (i := 1) csare_ascending.nd rfl (by first | exact Or.inl rfl | exact Or.inr rfl)) (pgs_cons (pg_name (i := 2) csare_ascending.nd rfl (by first | exact Or.inl rfl | exact Or.inr rfl)) pgs_nil)))) (fun _ _ _ _ _ => pts_nil) (fun _ _ _ _ _ => (pe_cmpR op_wLt (pv 1) (pv 2) (by rfl)))) pa_nil)))), ?_⟩
    refine s_ret (v := .bl (ascT z)) ?_ q
    refine ev_all (el_lcBY (as := z.zip (z.drop 1)) _ (ew_pair (f := fun p => (v1 p.1, v1 p.2)) (ei_zipS (ev_var rfl) (ev_sl (ev_var rfl) (eo_some ev_c) eo_none (by omega) (cut_from z 1)))) ?_ (fun _ _ => rfl) fun p _ H1 _ => ev_op (ev_var rfl) (ev_var rfl) rv_lt)
    rw [List.length_zip]
    exact slen (by omega)
def spAscU (K : PySem.W.Frag) : Sp := fun vs H Q _ => ∃ (a : Addr) (z : List T), vs = [.ref a] ∧ SqT K H a (z.map vS) ∧ z.length ≤ 1000 ∧ RetV (.bl (ascL z)) H Q
theorem cal_ascU (g : Top K mg W) (F : DefX K mg "are_ascending" sare_ascending ["items"]) : Cal P w K mg base 1 "are_ascending" (spAscU K) :=
  cal_of (k := 0) F csare_ascending (fun vs H Q E h => by obtain ⟨a, l, rfl, _⟩ := h; rfl) fun f cdv A outer s H vs Q E hr h => by
    obtain ⟨a, z, rfl, hs, hz, q⟩ := h
    refine ⟨_, (pss_one (ps_ret (pe_callB (cr_allK K rfl) (by rfl) g.b_all bt_all (pa_cons (pe_lc (own := [("one", 1), ("other", 2)]) rfl csare_ascending.nd (pi_zipAK K (by rfl) g.b_zip (pa_cons (pv 0) (pa_cons (pe_slice (sl_tupAK K) (pv 0) (po_some pe_int) po_none) pa_nil))) (blkOk_by (by kernel_rfl)) (fun _ _ _ _ _ => (pg_tupK K (n := 2) rfl (pgs_cons (pg_name (i := 1) csare_ascending.nd rfl (by first | exact Or.inl rfl | exact Or.inr rfl)) (pgs_cons (pg_name (i := 2) csare_ascending.nd rfl (by first | exact Or.inl rfl | exact Or.inr rfl)) pgs_nil)))) (fun _ _ _ _ _ => pts_nil) (fun _ _ _ _ _ => (pe_cmpR op_wLt (pv 1) (pv 2) (by rfl)))) pa_nil)))), ?_⟩
    refine s_ret (v := .bl (ascL z)) ?_ q
    refine ev_all (el_lcBY (as := z.zip (z.drop 1)) _ (ew_pair (f := fun p => (vS p.1, vS p.2)) ?_) ?_ (fun _ _ => rfl) fun p _ H1 _ => ev_op (ev_var rfl) (ev_var rfl) rv_lt)
    · have e : (z.zip (z.drop 1)).map (fun p => (vS p.1, vS p.2)) = (z.map vS).zip ((z.map vS).drop 1) := by
        rw [← List.map_drop, List.zip_map]
        rfl
      rw [e]
      have e2 : ((z.map vS).drop 1) = cutV (z.map vS) (some 1) none := (cutV_from 1).symm
      rw [e2]
      exact ei_zipT (ev_var rfl) hs (eu_slA (ev_var rfl) hs (eo_some ev_c) eo_none)
    · rw [List.length_zip]
      exact slen (by omega)
def spPairOf : Sp := fun vs H Q _ => ∃ a b : Nat, vs = [v1 a, v1 b] ∧ RetV (vS (pairOf a b)) H Q
theorem one_lt1 {a b : Nat} : decide (([a] : T) < [b]) = decide (a < b) := by
  by_cases h : a < b
  · rw [decide_eq_true h, decide_eq_true]
    exact List.Lex.rel h
  · rw [decide_eq_false h, decide_eq_false]
    intro z
    cases z with
    | rel z => exact h z
    | cons z => cases z
theorem cal_pair_of (g : Top K mg W) (F : DefX K mg "pair_of" spair_of ["one", "other"]) : Cal P w K mg base 1 "pair_of" spPairOf :=
  cal_of (k := 0) F cspair_of (fun vs H Q E h => by obtain ⟨a, b, rfl, _⟩ := h; rfl) fun f cdv A outer s H vs Q E hr h => by
    obtain ⟨a, b, rfl, q⟩ := h
    refine ⟨_, (pss_one (ps_ret (pe_ifExp (pt_cmpR op_wLt (pv 0) (pv 1) (by rfl)) (pe_op op_wAdd (pv 0) (pv 1)) (pe_op op_wAdd (pv 1) (pv 0))))), ?_⟩
    refine s_ret (v := vS (pairOf a b)) ?_ q
    refine ev_if (et_test (ev_op (ev_var rfl) (ev_var rfl) rv_lt)) (fun h => ?_) (fun h => ?_)
    · rw [one_lt1] at h
      rw [show pairOf a b = [a] ++ [b] by unfold pairOf; rw [if_pos (of_decide_eq_true h)]; rfl]
      exact ev_op (ev_var rfl) (ev_var rfl) (rv_add (by simp))
    · rw [one_lt1] at h
      rw [show pairOf a b = [b] ++ [a] by unfold pairOf; rw [if_neg (of_decide_eq_false h)]; rfl]
      exact ev_op (ev_var rfl) (ev_var rfl) (rv_add (by simp))
def spPairsOf : Sp := fun vs H Q _ => ∃ L : T, vs = [vS L] ∧ L.length ≤ 30 ∧ RetL ((pairsOf L).map vS) H Q
theorem flat_len {α β : Type} {as : List α} {bs : α → List β} {n : Nat} (h : ∀ a ∈ as, (bs a).length ≤ n) : (as.flatMap bs).length ≤ as.length * n := by
  induction as with
  | nil => simp
  | cons a r ih =>
    rw [List.flatMap_cons, List.length_append, List.length_cons, Nat.succ_mul]
    have h1 := h a (.head _)
    have h2 := ih fun b hb => h b (.tail _ hb)
    omega
theorem flat_len2 {α β : Type} {as : List α} {bs : α → List β} {m n : Nat} (hm : as.length ≤ m) (h : ∀ a ∈ as, (bs a).length ≤ n) : (as.flatMap bs).length ≤ m * n := Nat.le_trans (flat_len h) (Nat.mul_le_mul_right n hm)
theorem cal_pairs_of (g : Top K mg W) (F : DefX K mg "pairs_of" spairs_of ["letters"]) : Cal P w K mg base 1 "pairs_of" spPairsOf :=
  cal_of (k := 0) F cspairs_of (fun vs H Q E h => by obtain ⟨a, rfl, _⟩ := h; rfl) fun f cdv A outer s H vs Q E hr h => by
    obtain ⟨L, rfl, hL, q⟩ := h
    refine ⟨_, (pss_one (ps_ret (pe_lc2 (own := [("at", 2), ("one", 3), ("other", 1)]) (vs1 := [1]) rfl cspairs_of.nd (pi_enumS (by rfl) g.b_enumerate (pa_cons (pv 0) pa_nil)) (blkOk_by (by kernel_rfl)) (by decide) (fun _ _ _ _ _ => (pg_tupK K (n := 2) rfl (pgs_cons (pg_name (i := 2) cspairs_of.nd rfl (by first | exact Or.inl rfl | exact Or.inr rfl)) (pgs_cons (pg_name (i := 3) cspairs_of.nd rfl (by first | exact Or.inl rfl | exact Or.inr rfl)) pgs_nil)))) (fun _ _ _ _ _ => pts_nil) (fun _ _ _ _ _ => (pi_str (pe_slice sl_str (pv 0) (po_some (pe_op op_add (pv 2) pe_int)) po_none))) (fun _ _ _ _ _ => (pg_name (i := 1) cspairs_of.nd rfl (by first | exact Or.inl rfl | exact Or.inr rfl))) (fun _ _ _ _ _ => pts_nil) (fun _ _ _ _ _ => (pe_op op_wAdd (pv 3) (pv 1)))))), ?_⟩
    refine s_retL (xs := (pairsOf L).map vS) ?_ q
    refine el_lc2TY (as := L.zipIdx) (bs := fun p => L.drop (p.2 + 1)) (fun p o => [p.1, o]) (ew_pair (f := fun p => (.int (p.2 : Nat), v1 p.1)) (ei_enumS (ev_var rfl))) ?_ (fun _ _ => rfl) (fun p _ H1 _ => ew_name (ei_str ?_)) (fun _ _ _ _ => rfl) (fun p _ o _ H1 _ => ev_op (ev_var rfl) (ev_var rfl) (rv_add (a := [p.1]) (b := [o]) (by simp)))
    · exact Nat.le_trans (flat_len2 (m := 30) (n := 30) (by simpa using hL) fun p _ => by rw [List.length_drop]; omega) (by decide)
    · exact ev_sl (ev_var rfl) (eo_some (ev_is (ev_op (ev_var rfl) ev_c rv_I0) (by show V.int _ = V.int ((p.2 + 1 : Nat) : Int); rfl))) eo_none (by omega) (cut_from L (p.2 + 1))
def spLoose (K : PySem.W.Frag) (W : Addr) : Sp := fun vs H Q _ => ∃ (a t : Addr) (L : T) (C : List T) (c : Nat) (o : T), vs = [.ref a, v1 c, vS o] ∧ WebAt K W H a t L C ∧ c ∈ L ∧ o.length ≤ 1000 ∧ RetV (.bl (looseFrom L C c o)) H Q
theorem cal_is_loose_from (wk : WK K W) (g : Top K mg W) (F : DefX K mg "is_loose_from" sis_loose_from ["web", "letter", "others"]) : Cal P w K mg base 1 "is_loose_from" (spLoose K W) :=
  cal_of (k := 0) F csis_loose_from (fun vs H Q E h => by obtain ⟨a, t, L, C, c, o, rfl, _⟩ := h; rfl) fun f cdv A outer s H vs Q E hr h => by
    obtain ⟨a, t, L, C, c, o, rfl, hw, hc, ho, q⟩ := h
    refine ⟨_, (pss_one (ps_ret (pe_callB (cr_allK K rfl) (by rfl) g.b_all bt_all (pa_cons (pe_lc (own := [("other", 3)]) rfl csis_loose_from.nd (pi_str (pv 2)) (blkOk_by (by kernel_rfl)) (fun _ _ _ _ _ => (pg_name (i := 3) csis_loose_from.nd rfl (by first | exact Or.inl rfl | exact Or.inr rfl))) (fun _ _ _ _ _ => pts_nil) (fun _ _ _ _ _ => (pe_cmpR op_wNin (pv 3) (pe_dget (by exact hu_of hr) (pe_slK K (pv 0)) (pv 1) (fun _ _ => rfl)) (by rfl)))) pa_nil)))), ?_⟩
    refine s_ret (v := .bl (looseFrom L C c o)) ?_ q
    exact ev_all (el_lcBY (as := o) _ (ew_name (ei_str (ev_var rfl))) (slen ho) (fun _ _ => rfl) fun x _ H1 e1 => ev_op (ev_var rfl) (ev_close wk (web_ex e1 hw) (ev_var rfl) (ev_var rfl) hc) rv_nin)
def spCenter (K : PySem.W.Frag) (W : Addr) : Sp := fun vs H Q _ => ∃ (a t : Addr) (L : T) (C : List T) (c : Nat) (o : T), vs = [.ref a, v1 c, vS o] ∧ WebAt K W H a t L C ∧ c ∈ L ∧ o.length ≤ 1000 ∧ RetV (.bl (center L C c o)) H Q
theorem cal_is_center (wk : WK K W) (g : Top K mg W) (F : DefX K mg "is_center" sis_center ["web", "letter", "others"]) : Cal P w K mg base 1 "is_center" (spCenter K W) :=
  cal_of (k := 0) F csis_center (fun vs H Q E h => by obtain ⟨a, t, L, C, c, o, rfl, _⟩ := h; rfl) fun f cdv A outer s H vs Q E hr h => by
    obtain ⟨a, t, L, C, c, o, rfl, hw, hc, ho, q⟩ := h
    refine ⟨_, (pss_one (ps_ret (pe_and (pe_cmpR op_wNin (pv 1) (pv 2) (by rfl)) (pe_one (pe_callB (cr_allK K rfl) (by rfl) g.b_all bt_all (pa_cons (pe_lc (own := [("other", 3)]) rfl csis_center.nd (pi_str (pv 2)) (blkOk_by (by kernel_rfl)) (fun _ _ _ _ _ => (pg_name (i := 3) csis_center.nd rfl (by first | exact Or.inl rfl | exact Or.inr rfl))) (fun _ _ _ _ _ => pts_nil) (fun _ _ _ _ _ => (pe_cmpR op_wIn (pv 3) (pe_dget (by exact hu_of hr) (pe_slK K (pv 0)) (pv 1) (fun _ _ => rfl)) (by rfl)))) pa_nil)))))), ?_⟩
    refine s_ret (v := .bl (center L C c o)) ?_ q
    exact ev_andV (ev_op (ev_var rfl) (ev_var rfl) rv_nin) fun _ => ev_all (el_lcBY (as := o) _ (ew_name (ei_str (ev_var rfl))) (slen ho) (fun _ _ => rfl) fun x _ H1 e1 => ev_op (ev_var rfl) (ev_close wk (web_ex e1 hw) (ev_var rfl) (ev_var rfl) hc) rv_in)
end
end WW

/-! what the program's defs compute, in plain Lean: groups, paths, rings -/
namespace WW
def headD (p : T) : Nat := p.headD 0
def secD (p : T) : Nat := (p.drop 1).headD 0
def lastD (p : T) : Nat := p.getLastD 0
def laterOf (L grp : T) : T := L.filter fun c => decide (grp = []) || decide (lastD grp < c)
def moreOf1 (L : T) (C : List T) (grp : T) : List T := ((laterOf L grp).filter fun c => looseFrom L C c grp).map fun c => grp ++ [c]
def moreOf (L : T) (C : List T) (groups : List T) : List T := groups.flatMap (moreOf1 L C)
def bare1 (L : T) (C : List T) (p : T) : List T := ((row L C (lastD p)).filter fun c => !decide (c ∈ p) && looseFrom L C c p.dropLast).map fun c => p ++ [c]
def bareOf (L : T) (C : List T) (paths : List T) : List T := paths.flatMap (bare1 L C)
def endsOf (L : T) (C : List T) (p : T) : T := (row L C (lastD p)).filter fun c => decide (secD p < c) && decide (c ∈ row L C (headD p))
def ringsBy (L : T) (C : List T) (p : T) : List T := ((endsOf L C p).filter fun c => !decide (c ∈ p) && looseFrom L C c (p.drop 1).dropLast).map fun c => p ++ [c]
theorem atI_first {p : T} (h : p ≠ []) : L2.atI p 0 = some (headD p) := by
  cases p with
  | nil => exact absurd rfl h
  | cons a r => exact L2.atI_nat (j := 0) rfl
theorem atI_end {p : T} (h : p ≠ []) : L2.atI p (-1) = some (lastD p) := by
  have e : p = p.dropLast ++ [p.getLast h] := (List.dropLast_concat_getLast h).symm
  have e2 : lastD p = p.getLast h := by
    unfold lastD
    rw [List.getLastD_eq_getLast?, List.getLast?_eq_getLast h]
    rfl
  rw [e2]
  conv => lhs; rw [e]
  exact L2.atI_last _ _
theorem atI_sec {p : T} (h : 2 ≤ p.length) : L2.atI p 1 = some (secD p) := by
  match p, h with
  | a :: b :: r, _ => exact L2.atI_nat (j := 1) rfl
theorem headD_mem {p : T} (h : p ≠ []) : headD p ∈ p := by
  cases p with
  | nil => exact absurd rfl h
  | cons a r => exact .head _
theorem lastD_mem {p : T} (h : p ≠ []) : lastD p ∈ p := by
  have e2 : lastD p = p.getLast h := by
    unfold lastD
    rw [List.getLastD_eq_getLast?, List.getLast?_eq_getLast h]
    rfl
  rw [e2]
  exact List.getLast_mem h
theorem row_sub {L : T} {C : List T} {a c : Nat} (h : c ∈ row L C a) : c ∈ L := (mem_row.mp h).1
theorem row_len {L : T} {C : List T} {a : Nat} : (row L C a).length ≤ L.length := List.length_filter_le _ _
theorem later_len {L grp : T} : (laterOf L grp).length ≤ L.length := List.length_filter_le _ _
theorem more1_len {L grp : T} {C : List T} : (moreOf1 L C grp).length ≤ L.length := by
  unfold moreOf1
  rw [List.length_map]
  exact Nat.le_trans (List.length_filter_le _ _) later_len
theorem bare1_len {L p : T} {C : List T} : (bare1 L C p).length ≤ L.length := by
  unfold bare1
  rw [List.length_map]
  exact Nat.le_trans (List.length_filter_le _ _) row_len
theorem ringsBy_len {L p : T} {C : List T} : (ringsBy L C p).length ≤ L.length := by
  unfold ringsBy
  rw [List.length_map]
  exact Nat.le_trans (List.length_filter_le _ _) (Nat.le_trans (List.length_filter_le _ _) row_len)
theorem flat_take {α β : Type} {as : List α} {f : α → List β} {i : Nat} {a : α} (h : as[i]? = some a) : (as.take (i + 1)).flatMap f = (as.take i).flatMap f ++ f a := by
  rw [List.take_add_one, h, List.flatMap_append]
  simp
theorem flat_take_len {α β : Type} {as : List α} {f : α → List β} {i n m : Nat} (hn : as.length ≤ n) (h : ∀ a ∈ as, (f a).length ≤ m) : ((as.take i).flatMap f).length ≤ n * m :=
  flat_len2 (Nat.le_trans (by rw [List.length_take]; omega) hn) fun a ha => h a (List.mem_of_mem_take ha)
end WW

/-! the walk: letters, conflicts, rows, groups, paths -/
namespace WW
open PySem PySem.Spec PyProof.Rows L2 Evl
section
variable {P : Program} {w : World} {K : PySem.W.Frag} {mg : Str → Option Value} {base : Heap} {W : Addr}
theorem tyx_tup {H : Hp} {a : Addr} {xs : List V} (h : SqT K H a xs) : TyX K H (.ref a) (.type "tuple") := by
  rcases h with (h | ⟨o, h⟩) | ⟨o, its, n, h1, h2, _⟩
  · exact .base (.tup h)
  · exact .fTuple h
  · exact .kTuple h1 h2
def spAreLet : Sp := fun vs H Q _ => ∃ l : T, vs = [vS l] ∧ l.length ≤ 1000 ∧ RetV (.bl (areLet l)) H Q
theorem cal_are_letters (g : Top K mg W) (F : DefX K mg "are_letters" sare_letters ["value"]) (c_is_letter : Cal P w K mg base 1 "is_letter" spIsLetter) (c_are_ascending : Cal P w K mg base 1 "are_ascending" spAscT) :
    Cal P w K mg base 2 "are_letters" spAreLet :=
  cal_of (k := 1) F csare_letters (fun vs H Q E h => by obtain ⟨l, rfl, _⟩ := h; rfl) fun f cdv A outer s H vs Q E hr h => by
    obtain ⟨l, rfl, hl, q⟩ := h
    refine ⟨_, (pss_one (ps_ret (pe_and (pe_callB (cr_isiK K) (by rfl) g.b_isinstance bt_isinstance (pa_cons (pv 0) (pa_cons (pe_bltn (v := .ty "str") (by rfl) g.b_str bt_str rfl) pa_nil))) (pe_and (pe_callB (cr_allK K rfl) (by rfl) g.b_all bt_all (pa_cons (pe_lc (own := [("sign", 1)]) rfl csare_letters.nd (pi_str (pv 0)) (blkOk_by (by kernel_rfl)) (fun _ _ _ _ _ => (pg_name (i := 1) csare_letters.nd rfl (by first | exact Or.inl rfl | exact Or.inr rfl))) (fun _ _ _ _ _ => pts_nil) (fun _ _ _ _ _ => (pe_cal c_is_letter hr (by decide) (by rfl) (pa_cons (pv 1) pa_nil)))) pa_nil)) (pe_one (pe_cal c_are_ascending hr (by decide) (by rfl) (pa_cons (pv 0) pa_nil))))))), ?_⟩
    refine s_ret (v := .bl (areLet l)) ?_ q
    refine ev_is (ev_andV (ev_isStr (ev_var rfl) ev_c) fun _ => ev_andV (ev_all (el_lcBY (as := l) (fun c => isLet [c]) (ew_name (ei_str (ev_var rfl))) (slen hl) (fun _ _ => rfl) fun x _ H1 _ =>
      ev_cal (ea_cons (ev_var rfl) ea_nil) fun H2 _ Q q E => ⟨[x], rfl, by simp, q⟩)) fun _ => ev_cal (ea_cons (ev_var rfl) ea_nil) fun H2 _ Q q E => ⟨l, rfl, hl, q⟩) ?_
    rw [Bool.true_and]
    rfl
def spAreConf (K : PySem.W.Frag) : Sp := fun vs H Q _ => ∃ (a : Addr) (L : T) (C : List T), vs = [vS L, .ref a] ∧ SqT K H a (C.map vS) ∧ L.length ≤ 30 ∧ C.length ≤ 1000 ∧ RetV (.bl (areConf L C)) H Q
theorem cal_are_conflicts (g : Top K mg W) (F : DefX K mg "are_conflicts" sare_conflicts ["letters", "value"]) (c_pairs_of : Cal P w K mg base 1 "pairs_of" spPairsOf) (c_are_ascendingU : Cal P w K mg base 1 "are_ascending" (spAscU K)) :
    Cal P w K mg base 2 "are_conflicts" (spAreConf K) :=
  cal_of (k := 1) F csare_conflicts (fun vs H Q E h => by obtain ⟨a, L, C, rfl, _⟩ := h; rfl) fun f cdv A outer s H vs Q E hr h => by
    obtain ⟨a, L, C, rfl, hs, hL, hC, q⟩ := h
    refine ⟨_, (pss_cons (ps_if (pt_not (pt_val (pe_callB (cr_isiK K) (by rfl) g.b_isinstance bt_isinstance (pa_cons (pv 1) (pa_cons (pe_bltn (v := .ty "tuple") (by rfl) g.b_tuple bt_tuple rfl) pa_nil))))) (pss_one (ps_ret pe_bl)) pss_nil)
    (pss_cons (ps_set (i := 2) csare_conflicts.nd rfl (.inr rfl) (pe_cal c_pairs_of hr (by decide) (by rfl) (pa_cons (pv 0) pa_nil)))
    (pss_one (ps_ret (pe_and (pe_callB (cr_allK K rfl) (by rfl) g.b_all bt_all (pa_cons (pe_lc (own := [("one", 3)]) rfl csare_conflicts.nd (pi_tupK K (pv 1)) (blkOk_by (by kernel_rfl)) (fun _ _ _ _ _ => (pg_name (i := 3) csare_conflicts.nd rfl (by first | exact Or.inl rfl | exact Or.inr rfl))) (fun _ _ _ _ _ => pts_nil) (fun _ _ _ _ _ => (pe_and (pe_callB (cr_isiK K) (by rfl) g.b_isinstance bt_isinstance (pa_cons (pv 3) (pa_cons (pe_bltn (v := .ty "str") (by rfl) g.b_str bt_str rfl) pa_nil))) (pe_one (pe_cmpR (op_inK K) (pv 3) (pv 2) (by rfl)))))) pa_nil)) (pe_one (pe_cal c_are_ascendingU hr (by decide) (by rfl) (pa_cons (pv 1) pa_nil)))))))), ?_⟩
    refine q_when (b := false) (et_is (et_not (et_B (ev_cb (ea_cons (ev_var rfl) (ea_cons ev_c ea_nil)) fun H1 e1 Q q => ⟨_, _, _, _, true, rfl, .ty "tuple", tyx_tup (ex_t e1 hs), kit_ty (by decide +kernel), q H1 (Ex.refl _)⟩))) rfl) (fun h => nomatch h) fun _ H1 e1 => ?_
    refine q_asgL (xs := (pairsOf L).map vS) (el_cal (ea_cons (ev_var rfl) ea_nil) fun H2 _ Q q E => ⟨L, rfl, hL, q⟩) fun p H2 hp e2 h2 => ?_
    refine s_ret (v := .bl (areConf L C)) ?_ fun H3 e3 => q H3 ((e1.trans e2).trans e3)
    refine ev_andV (ev_all (el_lcBY (as := C) (fun c => decide (c ∈ pairsOf L)) (ew_name (ei_tupA (ev_var rfl) (ex_t (e1.trans e2) hs))) (slen hC) (fun _ _ => rfl) fun x _ H3 e3 =>
      ev_is (ev_andV (ev_isStr (ev_var rfl) ev_c) fun _ => ev_op (ev_var rfl) (ev_var rfl) (rv_inL (sq_of (e3 p _ h2)))) (by rw [Bool.true_and]))) fun _ => ev_cal (ea_cons (ev_var rfl) ea_nil) fun H3 e3 Q q E => ⟨a, C, rfl, ex_t ((e1.trans e2).trans e3) hs, hC, q⟩
def spCloseRow (K : PySem.W.Frag) : Sp := fun vs H Q _ => ∃ (a : Addr) (L : T) (C : List T) (c : Nat), vs = [vS L, .ref a, v1 c] ∧ SqT K H a (C.map vS) ∧ L.length ≤ 30 ∧ RetV (vS (row L C c)) H Q
theorem flat_ones (l : T) : (l.map fun c => [c]).flatten = l := by
  induction l with
  | nil => rfl
  | cons a r ih => rw [List.map_cons, List.flatten_cons, ih]; rfl
theorem map_v1 (l : T) : l.map v1 = (l.map fun c => [c]).map vS := by rw [List.map_map]; rfl
/-- ''.join of letters -/
theorem ev_joinC {σ : L2.St} {H : Hp} {to te : TE} {l : T} (h0 : Ev to σ H (vS [])) (h : EvL te σ H (l.map v1)) (hz : l.length ≤ 1000000) : Ev (tM1 (wJoin K) to te) σ H (vS l) := by
  rw [map_v1] at h
  have e := ev_join (K := K) h0 h (by rw [flat_ones]; exact hz)
  rw [flat_ones] at e
  exact e
theorem cal_close_row (g : Top K mg W) (F : DefX K mg "close_row" sclose_row ["letters", "conflicts", "letter"]) (c_pair_of : Cal P w K mg base 1 "pair_of" spPairOf) :
    Cal P w K mg base 2 "close_row" (spCloseRow K) :=
  cal_of (k := 1) F csclose_row (fun vs H Q E h => by obtain ⟨a, L, C, c, rfl, _⟩ := h; rfl) fun f cdv A outer s H vs Q E hr h => by
    obtain ⟨a, L, C, c, rfl, hs, hL, q⟩ := h
    refine ⟨_, (pss_one (ps_ret (pe_m1 PySem.F.slot_str_join PySem.F.type_str_join (mt_joinK K) pe_str (pe_lc (own := [("other", 3)]) rfl csclose_row.nd (pi_str (pv 0)) (blkOk_by (by kernel_rfl)) (fun _ _ _ _ _ => (pg_name (i := 3) csclose_row.nd rfl (by first | exact Or.inl rfl | exact Or.inr rfl))) (fun _ _ _ _ _ => (pts_one ((pw_or (pt_cmpR op_eq (pv 3) (pv 2) (by rfl)) (pw_or1 (pt_cmpR (op_inK K) (pe_cal c_pair_of hr (by decide) (by rfl) (pa_cons (pv 2) (pa_cons (pv 3) pa_nil))) (pv 1) (by rfl))))).pt)) (fun _ _ _ _ _ => (pv 3)))))), ?_⟩
    refine s_ret (v := vS (row L C c)) ?_ q
    refine ev_joinC ev_c (el_lcC (as := L) (fun o => decide (o = c) || decide (pairOf c o ∈ C)) (ew_name (ei_str (ev_var rfl))) (slen (by omega)) (fun _ _ => rfl) (fun x _ H1 e1 => ?_) fun x _ _ H1 _ => ev_var rfl) ?_
    · refine et_or (et_is (et_test (ev_op (ev_var rfl) (ev_var rfl) (rv_eqT (a := [x]) (b := [c])))) (by simp)) fun _ => et_test (ev_op (ev_cal (ea_cons (ev_var rfl) (ea_cons (ev_var rfl) ea_nil)) fun H2 _ Q q E => ⟨c, x, rfl, q⟩) (ev_var rfl) (rv_inT (ex_t e1 hs)))
    · exact Nat.le_trans row_len (by omega)
def spSimple (K : PySem.W.Frag) (W : Addr) : Sp := fun vs H Q _ => ∃ (a t : Addr) (L : T) (C : List T) (c : Nat) (o : T), vs = [.ref a, v1 c, vS o] ∧ WebAt K W H a t L C ∧ c ∈ L ∧ (∀ x ∈ o, x ∈ L) ∧ o.length ≤ 30 ∧ RetV (.bl (simple L C c o)) H Q
theorem cal_is_simple (wk : WK K W) (g : Top K mg W) (F : DefX K mg "is_simple" sis_simple ["web", "letter", "others"]) : Cal P w K mg base 1 "is_simple" (spSimple K W) :=
  cal_of (k := 0) F csis_simple (fun vs H Q E h => by obtain ⟨a, t, L, C, c, o, rfl, _⟩ := h; rfl) fun f cdv A outer s H vs Q E hr h => by
    obtain ⟨a, t, L, C, c, o, rfl, hw, hc, ho, hl, q⟩ := h
    have nl : (nearOf L C c o).length ≤ 30 := Nat.le_trans (List.length_filter_le _ _) hl
    refine ⟨_, (pss_cons (ps_set (i := 3) csis_simple.nd rfl (.inr rfl) (pe_lc (own := [("other", 4)]) rfl csis_simple.nd (pi_str (pv 2)) (blkOk_by (by kernel_rfl)) (fun _ _ _ _ _ => (pg_name (i := 4) csis_simple.nd rfl (by first | exact Or.inl rfl | exact Or.inr rfl))) (fun _ _ _ _ _ => (pts_one (pt_cmpR op_wIn (pv 4) (pe_dget (by exact hu_of hr) (pe_slK K (pv 0)) (pv 1) (fun _ _ => rfl)) (by rfl)))) (fun _ _ _ _ _ => (pv 4))))
    (pss_one (ps_ret (pe_callB (cr_allK K rfl) (by rfl) g.b_all bt_all (pa_cons (pe_lc2 (own := [("one", 5), ("other", 4)]) (vs1 := [4]) rfl csis_simple.nd (pi_listK K (pv 3)) (blkOk_by (by kernel_rfl)) (by decide) (fun _ _ _ _ _ => (pg_name (i := 5) csis_simple.nd rfl (by first | exact Or.inl rfl | exact Or.inr rfl))) (fun _ _ _ _ _ => pts_nil) (fun _ _ _ _ _ => (pi_listK K (pv 3))) (fun _ _ _ _ _ => (pg_name (i := 4) csis_simple.nd rfl (by first | exact Or.inl rfl | exact Or.inr rfl))) (fun _ _ _ _ _ => pts_nil) (fun _ _ _ _ _ => (pe_cmpR op_wIn (pv 5) (pe_dget (by exact hu_of hr) (pe_slK K (pv 0)) (pv 4) (fun _ _ => rfl)) (by rfl)))) pa_nil))))), ?_⟩
    refine q_asgL (xs := (nearOf L C c o).map v1) (el_lcC (as := o) (fun x => decide (x ∈ row L C c)) (ew_name (ei_str (ev_var rfl))) (slen (by omega)) (fun _ _ => rfl) (fun x _ H1 e1 => et_test (ev_op (ev_var rfl) (ev_close wk (web_ex e1 hw) (ev_var rfl) (ev_var rfl) hc) rv_in)) fun x _ _ H1 _ => ev_var rfl) fun p H1 hp e1 h1 => ?_
    refine s_ret (v := .bl (simple L C c o)) ?_ fun H3 e3 => q H3 (e1.trans e3)
    refine ev_all (el_lc2BY (as := nearOf L C c o) (bs := fun _ => nearOf L C c o) (fun x y => decide (x ∈ row L C y)) (ew_name (ei_listA (ev_var rfl) (sq_of h1))) ?_ (fun _ _ => rfl) (fun x _ H2 e2 => ew_name (ei_listA (ev_var rfl) (sq_of (e2 p _ h1)))) (fun _ _ _ _ => rfl)
      fun x _ y hy H2 e2 => ev_op (ev_var rfl) (ev_close wk (web_ex (e1.trans e2) hw) (ev_var rfl) (ev_var rfl) (ho y (List.mem_filter.mp hy).1)) rv_in)
    exact Nat.le_trans (flat_len2 nl fun _ _ => nl) (by decide)
/-- groups and paths that the walk takes -/
def Okp (L : T) (ts : List T) : Prop := ∀ p ∈ ts, p.length ≤ 20 ∧ ∀ c ∈ p, c ∈ L
def spMore (K : PySem.W.Frag) (W : Addr) : Sp := fun vs H Q _ => ∃ (a t b : Addr) (L : T) (C : List T) (ts : List T), vs = [.ref a, .ref b] ∧ WebAt K W H a t L C ∧ L.length ≤ 10 ∧ SqL K H b (ts.map vS) ∧ Okp L ts ∧ ts.length ≤ 400000 ∧ RetL ((moreOf L C ts).map vS) H Q
theorem cal_groups_of_one_more (wk : WK K W) (g : Top K mg W) (F : DefX K mg "groups_of_one_more" sgroups_of_one_more ["web", "groups"]) (c_is_loose_from : Cal P w K mg base 1 "is_loose_from" (spLoose K W)) :
    Cal P w K mg base 2 "groups_of_one_more" (spMore K W) :=
  cal_of (k := 1) F csgroups_of_one_more (fun vs H Q E h => by obtain ⟨a, t, b, L, C, ts, rfl, _⟩ := h; rfl) fun f cdv A outer s H vs Q E hr h => by
    obtain ⟨a, t, b, L, C, ts, rfl, hw, hL, hb, hok, hts, q⟩ := h
    refine ⟨_, (pss_cons (ps_set (i := 2) csgroups_of_one_more.nd rfl (.inl rfl) (pe_lst pa_nil))
    (pss_cons (ps_for PassesOwn.never rfl (pi_listK K (pv 1)) (pg_name (i := 3) csgroups_of_one_more.nd rfl (.inr rfl))
    (pss_cons (ps_setLc (i := 4) (own := [("letter", 5)]) rfl csgroups_of_one_more.nd rfl rfl (sw_true rfl rfl rfl (by kernel_rfl)) (pi_str (pe_slK K (pv 0))) (blkOk_by (by kernel_rfl)) (fun _ _ _ _ _ => (pg_name (i := 5) csgroups_of_one_more.nd rfl (by first | exact Or.inl rfl | exact Or.inr rfl))) (fun _ _ _ _ _ => (pts_one ((pw_or (pt_cmpR op_eq (pv 3) pe_str (by rfl)) (pw_or1 (pt_cmpR op_wGt (pv 5) (pe_ix ix_str (pv 3) (pe_un un_neg pe_int) (fun _ _ => rfl)) (by rfl))))).pt)) (fun _ _ _ _ _ => (pv 5)))
    (pss_one (ps_expr (pe_bm PySem.F.plainAttrs_list PySem.F.slot_list_extend PySem.F.type_list_extend mt_extend (pv 2) (pa_cons (pe_lc (own := [("letter", 5)]) rfl csgroups_of_one_more.nd (pi_listK K (pv 4)) (blkOk_by (by kernel_rfl)) (fun _ _ _ _ _ => (pg_name (i := 5) csgroups_of_one_more.nd rfl (by first | exact Or.inl rfl | exact Or.inr rfl))) (fun _ _ _ _ _ => (pts_one (pt_val (pe_cal c_is_loose_from hr (by decide) (by rfl) (pa_cons (pv 0) (pa_cons (pv 5) (pa_cons (pv 3) pa_nil))))))) (fun _ _ _ _ _ => (pe_op op_wAdd (pv 3) (pv 5)))) pa_nil))))))
    (pss_one (ps_ret (pv 2))))), ?_⟩
    refine q_asgL (xs := []) (el_lst ea_nil (Nat.zero_le _)) fun l H1 hl e1 h1 => ?_
    refine q_forM (l := l) (as := ts) (ew_name (inj := vS) (ei_listA (ev_var rfl) hb)) e1 hl (fun i => ((ts.take i).flatMap (moreOf1 L C)).map vS) h1 (fun i σ => ∃ y3 y4 y5, σ = [some (.ref a), some (.ref b), some (.ref l), y3, y4, y5]) ⟨_, _, _, rfl⟩ (fun i grp σ' H' hi hσ e hl' N k => ?_) (fun σ' H' hσ e hl' => ?_)
    · obtain ⟨y3, y4, y5, rfl⟩ := hσ
      have hg := hok grp (List.mem_of_getElem? hi)
      refine q_asgL (xs := (laterOf L grp).map v1) (el_lcC (as := L) (fun c => decide (grp = []) || decide (lastD grp < c)) (ew_name (ei_str (ev_letters wk (web_ex e hw) (ev_var rfl)))) (slen (by omega)) (fun _ _ => rfl) (fun x _ H2 e2 => ?_) fun x _ _ H2 _ => ev_var rfl) fun p H2 hp e2 h2 => ?_
      · refine et_or (et_test (ev_op (ev_var rfl) ev_c (rv_eqT (a := grp) (b := [])))) fun hne => ?_
        have hne : grp ≠ [] := of_decide_eq_false hne
        refine et_is (et_test (ev_op (ev_var rfl) (ev_op (ev_var rfl) (ev_un ev_c ru_neg) (rv_ix (by omega) (atI_end hne))) (rv_gt (a := [x]) (b := [lastD grp])))) one_lt1
      · refine s_ext (l := l) (ys := (moreOf1 L C grp).map vS) (e2 l _ hl') (ev_var rfl) ?_ ?_ fun H3 e3 => k _ _ ⟨_, _, _, rfl⟩ ((ExM.of (e2.trans e3)).trans ExM.upd) ?_
        · refine el_lcT (as := laterOf L grp) (fun c => looseFrom L C c grp) (fun c => grp ++ [c]) (ew_name (ei_listA (ev_var rfl) (sq_of h2))) (slen (Nat.le_trans later_len (by omega))) (fun _ _ => rfl) (fun x hx H3 e3 => ?_) fun x _ _ H3 _ => ev_op (ev_var rfl) (ev_var rfl) (rv_add (by simp; omega))
          exact et_B (ev_cal (ea_cons (ev_var rfl) (ea_cons (ev_var rfl) (ea_cons (ev_var rfl) ea_nil))) fun H4 e4 Q q E => ⟨a, t, L, C, x, grp, rfl, web_ex ((e.trans e2).trans (e3.trans e4)) hw, (List.mem_filter.mp hx).1, by omega, q⟩)
        · have n1 := flat_take_len (i := i) (f := moreOf1 L C) hts fun _ _ => Nat.le_trans more1_len hL
          have n2 := more1_len (L := L) (grp := grp) (C := C)
          rw [List.length_map, List.length_map]
          have : sizeLine = 16777216 := rfl
          omega
        · show upd H3 l _ l = _
          rw [upd_same, flat_take hi, List.map_append]
    · obtain ⟨y3, y4, y5, rfl⟩ := hσ
      rw [List.take_length] at hl'
      exact s_ret (v := .ref l) (ev_var rfl) fun H2 e2 => q l H2 hl ((ExM.ex e1 hl e).trans e2) (e2 l _ hl')
end
end WW

/-! counting; layers of groups and paths; sorted texts -/
namespace WW
theorem nodup_sub_len {α : Type} [DecidableEq α] : ∀ {a b : List α}, a.Nodup → (∀ x ∈ a, x ∈ b) → a.length ≤ b.length
  | [], _, _, _ => by exact Nat.zero_le _
  | x :: a, b, hn, hs => by
    have hx : x ∈ b := hs x (.head _)
    have hn' := List.nodup_cons.1 hn
    have ih := nodup_sub_len (a := a) (b := b.erase x) hn'.2 fun y hy => (List.mem_erase_of_ne (fun (e : y = x) => hn'.1 (by rw [← e]; exact hy))).mpr (hs y (.tail _ hy))
    rw [List.length_erase_of_mem hx] at ih
    have : 0 < b.length := List.length_pos_of_mem hx
    rw [List.length_cons]
    omega
theorem ext_len {L p : T} (hL : L.Nodup) (hp : p.Nodup) (hs : ∀ x ∈ p, x ∈ L) : (L.filter fun c => !decide (c ∈ p)).length + p.length ≤ L.length := by
  rw [← List.length_append]
  refine nodup_sub_len (List.nodup_append.mpr ⟨hL.filter _, hp, fun a ha b hb e => ?_⟩) fun x hx => ?_
  · subst e
    have := (List.mem_filter.mp ha).2
    simp at this
    exact this hb
  · rcases List.mem_append.mp hx with h | h
    · exact (List.mem_filter.mp h).1
    · exact hs x h
theorem filter_le_filter {α : Type} {p q : α → Bool} : ∀ {l : List α}, (∀ x ∈ l, p x = true → q x = true) → (l.filter p).length ≤ (l.filter q).length
  | [], _ => Nat.le_refl _
  | a :: l, h => by
    have ih := filter_le_filter (l := l) fun x hx => h x (.tail _ hx)
    rw [List.filter_cons]; rw [List.filter_cons]
    cases hp : p a with
    | true => rw [if_pos rfl, if_pos (h a (.head _) hp), List.length_cons, List.length_cons]; omega
    | false =>
      rw [if_neg (by decide)]
      split
      · rw [List.length_cons]; omega
      · exact ih
/-- a layer: all of one length, no letter twice, letters of L -/
def Lay (L : T) (k : Nat) (ts : List T) : Prop := ∀ p ∈ ts, p.Nodup ∧ p.length = k ∧ ∀ x ∈ p, x ∈ L
def dsc (n : Nat) : Nat → Nat
  | 0 => 1
  | k + 1 => dsc n k * (n - k)
theorem dsc_le {n k : Nat} (hn : n ≤ 9) (hk : k ≤ 10) : dsc n k ≤ 362880 := by
  have h : ∀ n < 10, ∀ k < 11, dsc n k ≤ 362880 := by decide +kernel
  exact h n (by omega) k (by omega)
theorem lay_len {L : T} {k : Nat} {ts : List T} (h : Lay L k ts) (hne : ts ≠ []) : k ≤ L.length := by
  cases ts with
  | nil => exact absurd rfl hne
  | cons p r =>
    obtain ⟨h1, h2, h3⟩ := h p (.head _)
    rw [← h2]
    exact nodup_sub_len h1 h3
theorem nodup_snoc {p : T} {c : Nat} (hp : p.Nodup) (hc : c ∉ p) : (p ++ [c]).Nodup :=
  List.nodup_append.mpr ⟨hp, by simp, fun a ha b hb e => by
    rw [List.mem_singleton] at hb
    subst e hb
    exact hc ha⟩
theorem lay_okp {L : T} {k : Nat} {ts : List T} (h : Lay L k ts) (hk : k ≤ 20) : ∀ p ∈ ts, p.length ≤ 20 ∧ ∀ c ∈ p, c ∈ L := fun p hp => ⟨by rw [(h p hp).2.1]; exact hk, (h p hp).2.2⟩
/-! groups -/
/-- ascending -/
def AscT (p : T) : Prop := p.Pairwise (· < ·)
def LayA (L : T) (k : Nat) (ts : List T) : Prop := Lay L k ts ∧ ∀ p ∈ ts, AscT p
theorem asc_last {p : T} (h : AscT p) : ∀ x ∈ p, x ≤ lastD p := by
  intro x hx
  have hne : p ≠ [] := List.ne_nil_of_mem hx
  have e : p = p.dropLast ++ [p.getLast hne] := (List.dropLast_concat_getLast hne).symm
  have e2 : lastD p = p.getLast hne := by
    unfold lastD
    rw [List.getLastD_eq_getLast?, List.getLast?_eq_getLast hne]
    rfl
  unfold AscT at h
  rw [e] at h hx
  have hp := List.pairwise_append.mp h
  rcases List.mem_append.1 hx with hx | hx
  · have := hp.2.2 x hx (p.getLast hne) (by simp)
    omega
  · rw [List.mem_singleton] at hx
    omega
theorem asc_snoc {p : T} {c : Nat} (h : AscT p) (hc : p = [] ∨ lastD p < c) : AscT (p ++ [c]) := by
  refine List.pairwise_append.mpr ⟨h, by simp, fun a ha b hb => ?_⟩
  rw [List.mem_singleton] at hb
  subst hb
  rcases hc with hc | hc
  · subst hc; cases ha
  · have := asc_last h a ha
    omega
theorem asc_nodup {p : T} (h : AscT p) : p.Nodup := List.Pairwise.imp (fun h e => by omega) h
theorem mem_more {L : T} {C : List T} {ts : List T} {p : T} : p ∈ moreOf L C ts ↔ ∃ g ∈ ts, ∃ c ∈ L, (g = [] ∨ lastD g < c) ∧ looseFrom L C c g = true ∧ p = g ++ [c] := by
  unfold moreOf moreOf1 laterOf
  simp only [List.mem_flatMap, List.mem_map, List.mem_filter, Bool.or_eq_true, decide_eq_true_eq]
  constructor
  · rintro ⟨g, hg, c, ⟨⟨h1, h2⟩, h3⟩, rfl⟩
    exact ⟨g, hg, c, h1, h2, h3, rfl⟩
  · rintro ⟨g, hg, c, h1, h2, h3, rfl⟩
    exact ⟨g, hg, c, ⟨⟨h1, h2⟩, h3⟩, rfl⟩
theorem mem_bare {L : T} {C : List T} {ts : List T} {p : T} : p ∈ bareOf L C ts ↔ ∃ g ∈ ts, ∃ c ∈ row L C (lastD g), c ∉ g ∧ looseFrom L C c g.dropLast = true ∧ p = g ++ [c] := by
  unfold bareOf bare1
  simp only [List.mem_flatMap, List.mem_map, List.mem_filter, Bool.and_eq_true, Bool.not_eq_true', decide_eq_false_iff_not]
  constructor
  · rintro ⟨g, hg, c, ⟨h1, h2, h3⟩, rfl⟩
    exact ⟨g, hg, c, h1, h2, h3, rfl⟩
  · rintro ⟨g, hg, c, h1, h2, h3, rfl⟩
    exact ⟨g, hg, c, ⟨h1, h2, h3⟩, rfl⟩
theorem lay_more {L : T} {C : List T} {k : Nat} {ts : List T} (h : LayA L k ts) : LayA L (k + 1) (moreOf L C ts) := by
  have key : ∀ p ∈ moreOf L C ts, AscT p ∧ p.length = k + 1 ∧ ∀ x ∈ p, x ∈ L := fun p hp => by
    obtain ⟨g, hg, c, hc, h2, _, rfl⟩ := mem_more.mp hp
    obtain ⟨_, g2, g3⟩ := h.1 g hg
    refine ⟨asc_snoc (h.2 g hg) h2, by rw [List.length_append, g2]; rfl, fun x hx => ?_⟩
    rcases List.mem_append.1 hx with hx | hx
    · exact g3 x hx
    · rw [List.mem_singleton] at hx
      exact hx ▸ hc
  exact ⟨fun p hp => ⟨asc_nodup (key p hp).1, (key p hp).2⟩, fun p hp => (key p hp).1⟩
theorem lay_bare {L : T} {C : List T} {k : Nat} {ts : List T} (h : Lay L k ts) : Lay L (k + 1) (bareOf L C ts) := fun p hp => by
  obtain ⟨g, hg, c, hc, h2, _, rfl⟩ := mem_bare.mp hp
  obtain ⟨g1, g2, g3⟩ := h g hg
  refine ⟨nodup_snoc g1 h2, by rw [List.length_append, g2]; rfl, fun x hx => ?_⟩
  rcases List.mem_append.1 hx with hx | hx
  · exact g3 x hx
  · rw [List.mem_singleton] at hx
    exact hx ▸ row_sub hc
theorem more_len {L : T} {C : List T} {k : Nat} {ts : List T} (hL : L.Nodup) (h : LayA L k ts) (hl : ts.length ≤ dsc L.length k) : (moreOf L C ts).length ≤ dsc L.length (k + 1) := by
  refine Nat.le_trans (flat_len2 (n := L.length - k) hl fun g hg => ?_) (Nat.le_refl _)
  obtain ⟨g1, g2, g3⟩ := h.1 g hg
  have e := ext_len hL g1 g3
  have e2 : (laterOf L g).length ≤ (L.filter fun c => !decide (c ∈ g)).length := filter_le_filter fun x hx hp => by
    rw [Bool.or_eq_true, decide_eq_true_eq, decide_eq_true_eq] at hp
    rw [Bool.not_eq_true', decide_eq_false_iff_not]
    intro hm
    rcases hp with hp | hp
    · subst hp; cases hm
    · have := asc_last (h.2 g hg) x hm
      omega
  unfold moreOf1
  rw [List.length_map]
  have := List.length_filter_le (fun c => looseFrom L C c g) (laterOf L g)
  omega
theorem bare_len {L : T} {C : List T} {k : Nat} {ts : List T} (hL : L.Nodup) (h : Lay L k ts) (hl : ts.length ≤ dsc L.length k) : (bareOf L C ts).length ≤ dsc L.length (k + 1) := by
  refine Nat.le_trans (flat_len2 (n := L.length - k) hl fun g hg => ?_) (Nat.le_refl _)
  obtain ⟨g1, g2, g3⟩ := h g hg
  have e := ext_len hL g1 g3
  unfold bare1 row
  rw [List.length_map, List.filter_filter]
  have e2 := filter_le_filter (l := L) (p := fun a => (!decide (a ∈ g) && looseFrom L C a g.dropLast) && (decide (a = lastD g) || decide (pairOf (lastD g) a ∈ C))) (q := fun c => !decide (c ∈ g)) fun x _ hp => by
    simp only [ Bool.and_eq_true ] at hp
    exact hp.1.1
  omega
/-! layers -/
def layer (L : T) (C : List T) : Nat → List T
  | 0 => [[]]
  | k + 1 => moreOf L C (layer L C k)
def upto (L : T) (C : List T) (k : Nat) : List T := (List.range k).flatMap (layer L C)
def looseAll (L : T) (C : List T) : List T := upto L C (L.length + 1)
theorem upto_succ {L : T} {C : List T} {k : Nat} : upto L C (k + 1) = upto L C k ++ layer L C k := by
  unfold upto
  rw [List.range_succ, List.flatMap_append]
  simp
theorem layer_ok {L : T} {C : List T} (hL : L.Nodup) : ∀ k, LayA L k (layer L C k) ∧ (layer L C k).length ≤ dsc L.length k
  | 0 => ⟨⟨fun p hp => by
      rw [show p = [] from List.mem_singleton.mp hp]
      exact ⟨.nil, rfl, fun x hx => nomatch hx⟩, fun p hp => by
      rw [show p = [] from List.mem_singleton.mp hp]
      exact .nil⟩, Nat.le_refl _⟩
  | k + 1 => ⟨lay_more (layer_ok hL k).1, more_len hL (layer_ok hL k).1 (layer_ok hL k).2⟩
theorem layer_nil {L : T} {C : List T} {k j : Nat} (h : layer L C k = []) : layer L C (k + j) = [] := by
  induction j with
  | zero => exact h
  | succ j ih =>
    show moreOf L C (layer L C (k + j)) = []
    rw [ih]
    rfl
theorem upto_done {L : T} {C : List T} {k j : Nat} (h : layer L C k = []) : upto L C (k + j) = upto L C k := by
  induction j with
  | zero => rfl
  | succ j ih => rw [← Nat.add_assoc, upto_succ, ih, layer_nil h, List.append_nil]
theorem layer_end {L : T} {C : List T} (hL : L.Nodup) {k : Nat} (h : layer L C k ≠ []) : k ≤ L.length := lay_len (layer_ok hL k).1.1 h
theorem upto_len {L : T} {C : List T} (hL : L.Nodup) (h9 : L.length ≤ 9) : ∀ k, k ≤ 11 → (upto L C k).length ≤ k * 362880
  | 0, _ => Nat.le_refl _
  | k + 1, hk => by
    rw [upto_succ, List.length_append]
    have ih := upto_len hL h9 (C := C) k (by omega)
    have h := (layer_ok (C := C) hL k).2
    have := dsc_le h9 (k := k) (by omega)
    omega
/-- the bare paths of k + 1 letters -/
def pathsAt (L : T) (C : List T) : Nat → List T
  | 0 => L.map fun c => [c]
  | k + 1 => bareOf L C (pathsAt L C k)
theorem lay_ones {L : T} : Lay L 1 (L.map fun c => [c]) := fun p hp => by
  obtain ⟨c, hc, rfl⟩ := List.mem_map.mp hp
  exact ⟨by simp, rfl, fun x hx => by rw [List.mem_singleton] at hx; exact hx ▸ hc⟩
theorem ones_len {L : T} : (L.map fun c => [c]).length ≤ dsc L.length 1 := by
  rw [List.length_map]
  show L.length ≤ 1 * (L.length - 0)
  omega
theorem paths_ok {L : T} {C : List T} (hL : L.Nodup) : ∀ k, Lay L (k + 1) (pathsAt L C k) ∧ (pathsAt L C k).length ≤ dsc L.length (k + 1)
  | 0 => ⟨lay_ones, ones_len⟩
  | k + 1 => ⟨lay_bare (paths_ok hL k).1, bare_len hL (paths_ok hL k).1 (paths_ok hL k).2⟩
def fourOf (L : T) (C : List T) : List T := (pathsAt L C 3).filter fun p => decide (headD p < lastD p)
/-! rings -/
def leastFirst (p : T) : Bool := ((p.drop 1).map fun c => decide (headD p < c)).all id
def minL : List T → T
  | [] => []
  | a :: r => r.foldl (fun m y => if y < m then y else m) a
def ringStep (L : T) (C : List T) (paths : List T) : List T := (bareOf L C paths).filter leastFirst
def ringGo (L : T) (C : List T) (p2 : List T) : Bool := !p2.isEmpty && (decide (3 ≤ (p2.headD []).length) && !(p2.flatMap (ringsBy L C)).isEmpty)
def ringLoop (L : T) (C : List T) : Nat → List T → Option T
  | 0, _ => none
  | m + 1, paths => if paths = [] then none else if ringGo L C (ringStep L C paths) = true then some (minL ((ringStep L C paths).flatMap (ringsBy L C))) else ringLoop L C m (ringStep L C paths)
def ringOf (L : T) (C : List T) : Option T := ringLoop L C (L.length + 2) (L.map fun c => [c])
theorem lay_step {L : T} {C : List T} {k : Nat} {ts : List T} (h : Lay L k ts) : Lay L (k + 1) (ringStep L C ts) := fun p hp => lay_bare h p (List.mem_filter.mp hp).1
theorem step_len {L : T} {C : List T} {k : Nat} {ts : List T} (hL : L.Nodup) (h : Lay L k ts) (hl : ts.length ≤ dsc L.length k) : (ringStep L C ts).length ≤ dsc L.length (k + 1) :=
  Nat.le_trans (List.length_filter_le _ _) (bare_len hL h hl)
/-! claws and fans -/
def clawsOf (L : T) (C : List T) : List T := L.flatMap fun c => (((looseAll L C).filter fun g => decide (g.length = 3)).filter fun g => center L C c g).map fun g => [c] ++ g
def fansOf (L : T) (C : List T) : List T := (fourOf L C).flatMap fun p => (L.filter fun c => center L C c p).map fun c => p ++ [c]
/-! sorted texts -/
def ins (a : Nat) : T → T
  | [] => [a]
  | b :: r => if a ≤ b then a :: b :: r else b :: ins a r
def isort : T → T
  | [] => []
  | a :: r => ins a (isort r)
theorem ins_perm (a : Nat) : ∀ l, (ins a l).Perm (a :: l)
  | [] => .refl _
  | b :: r => by
    unfold ins
    split
    · exact .refl _
    · exact ((ins_perm a r).cons b).trans (.swap a b r)
theorem isort_perm : ∀ l, (isort l).Perm l
  | [] => .refl _
  | a :: r => (ins_perm a _).trans ((isort_perm r).cons a)
theorem ins_sorted (a : Nat) : ∀ l : T, l.Pairwise (· ≤ ·) → (ins a l).Pairwise (· ≤ ·)
  | [], _ => by simp [ins]
  | b :: r, h => by
    have h' := List.pairwise_cons.1 h
    unfold ins
    split
    · rename_i hab
      refine List.pairwise_cons.mpr ⟨fun x hx => ?_, h⟩
      rcases List.mem_cons.1 hx with e | hx
      · omega
      · have := h'.1 x hx
        omega
    · rename_i hab
      refine List.pairwise_cons.mpr ⟨fun x hx => ?_, ins_sorted a r h'.2⟩
      rcases List.mem_cons.mp ((ins_perm a r).mem_iff.mp hx) with e | hx
      · omega
      · exact h'.1 x hx
theorem isort_sorted : ∀ l, (isort l).Pairwise (· ≤ ·)
  | [] => .nil
  | a :: r => ins_sorted a _ (isort_sorted r)
theorem sorted_unique : ∀ {a b : T}, a.Perm b → a.Pairwise (· ≤ ·) → b.Pairwise (· ≤ ·) → a = b
  | [], b, h, _, _ => List.Perm.nil_eq h
  | x :: a, [], h, _, _ => absurd h.length_eq (by simp)
  | x :: a, y :: b, h, ha, hb => by
    have ha' := List.pairwise_cons.mp ha
    have hb' := List.pairwise_cons.mp hb
    have e : x = y := by
      have h1 : x ∈ y :: b := h.mem_iff.mp (.head _)
      have h2 : y ∈ x :: a := h.mem_iff.mpr (.head _)
      rcases List.mem_cons.mp h1 with e | h1
      · exact e
      · rcases List.mem_cons.mp h2 with e | h2
        · exact e.symm
        · have := ha'.1 y h2
          have := hb'.1 x h1
          omega
    subst e
    rw [sorted_unique (List.Perm.cons_inv h) ha'.2 hb'.2]
theorem isort_len (l : T) : (isort l).length = l.length := (isort_perm l).length_eq
def elimIs (L : T) (C : List T) (z : T) : Bool := decide (isort z = L) && (z.zipIdx.map fun p => simple L C p.1 (z.drop p.2)).all id
end WW
namespace WW
theorem triples_upto {L : T} {C : List T} (hL : L.Nodup) : ∀ k, (upto L C k).filter (fun g => decide (g.length = 3)) = if 3 < k then layer L C 3 else []
  | 0 => rfl
  | k + 1 => by
    rw [upto_succ, List.filter_append, triples_upto hL k]
    by_cases h3 : k = 3
    · subst h3
      have e : (layer L C 3).filter (fun g => decide (g.length = 3)) = layer L C 3 := List.filter_eq_self.mpr fun g hg => decide_eq_true ((layer_ok hL 3).1.1 g hg).2.1
      rw [e]
      simp
    · have e : (layer L C k).filter (fun g => decide (g.length = 3)) = [] := List.filter_eq_nil_iff.mpr fun g hg => by
        have := ((layer_ok hL k).1.1 g hg).2.1
        simp only [decide_eq_true_eq]
        omega
      rw [e, List.append_nil]
      by_cases h4 : 3 < k
      · rw [if_pos h4, if_pos (by omega)]
      · rw [if_neg h4, if_neg (by omega)]
theorem triples_eq {L : T} {C : List T} (hL : L.Nodup) : (looseAll L C).filter (fun g => decide (g.length = 3)) = layer L C 3 := by
  unfold looseAll
  rw [triples_upto hL]
  by_cases h : 3 < L.length + 1
  · rw [if_pos h]
  · rw [if_neg h]
    refine (Classical.byContradiction fun z => ?_ : layer L C 3 = []).symm
    have := layer_end hL z
    omega
end WW

/-! the walk: order of texts; sorted, min; bare paths, rings -/
namespace WW
open PySem PySem.Spec PyProof.Rows L2 Evl
theorem lexT {a b : T} (h1 : ¬ a < b) (h2 : ¬ b < a) : a = b := List.le_antisymm (List.not_lt.mp h2) (List.not_lt.mp h1)
theorem lexA {a b : T} (h : a < b) : ¬ b < a := List.lt_asymm h
theorem lex_le_trans {a b c : T} (h1 : ¬ b < a) (h2 : ¬ c < b) : ¬ c < a := fun h => by
  by_cases e : a < b
  · exact h2 (lex_trans h e)
  · have := lexT e h1
    subst this
    exact h2 h
theorem minL_go : ∀ (r : List T) (a : T), (r.foldl (fun m y => if y < m then y else m) a) ∈ a :: r ∧ ∀ y ∈ a :: r, ¬ y < r.foldl (fun m y => if y < m then y else m) a
  | [], a => ⟨.head _, fun y hy => by rw [List.mem_singleton] at hy; subst hy; exact lex_irrefl _⟩
  | b :: r, a => by
    show (r.foldl _ (if b < a then b else a)) ∈ _ ∧ ∀ y ∈ _, ¬ y < r.foldl _ (if b < a then b else a)
    obtain ⟨h1, h2⟩ := minL_go r (if b < a then b else a)
    refine ⟨?_, fun y hy => ?_⟩
    · rcases List.mem_cons.mp h1 with e | h1
      · rw [e]
        split
        · exact .tail _ (.head _)
        · exact .head _
      · exact .tail _ (.tail _ h1)
    · have hm := h2 (if b < a then b else a) (.head _)
      rcases List.mem_cons.1 hy with e | hy
      · subst e
        split at hm
        · rename_i hb
          rw [if_pos hb]
          exact fun z => hm (lex_trans hb z)
        · rename_i hb
          rw [if_neg hb]
          exact hm
      · rcases List.mem_cons.mp hy with e | hy
        · subst e
          split at hm
          · rename_i hb
            rw [if_pos hb]
            exact hm
          · rename_i hb
            rw [if_neg hb]
            exact lex_le_trans hm hb
        · exact h2 y (.tail _ hy)
theorem minL_mem {ts : List T} (h : ts ≠ []) : minL ts ∈ ts := by
  cases ts with
  | nil => exact absurd rfl h
  | cons a r => exact (minL_go r a).1
theorem minL_le {ts : List T} {y : T} (h : y ∈ ts) : ¬ y < minL ts := by
  cases ts with
  | nil => cases h
  | cons a r => exact (minL_go r a).2 y h
theorem minL_is {ts : List T} {m : T} (h : m ∈ ts) (hm : ∀ y ∈ ts, ¬ y < m) : m = minL ts := lexT (minL_le h) (hm _ (minL_mem (List.ne_nil_of_mem h)))
theorem ltCps_iff : ∀ {a b : List Nat}, ltCps a b = true ↔ a < b
  | [], [] => ⟨fun h => (Bool.noConfusion h), fun h => absurd h (lex_irrefl _)⟩
  | [], b :: t => ⟨fun _ => List.nil_lt_cons _ _, fun _ => rfl⟩
  | a :: r, [] => ⟨fun h => Bool.noConfusion h, fun h => absurd h (List.not_lt_nil _)⟩
  | a :: r, b :: t => by
    have ih := ltCps_iff (a := r) (b := t)
    show (decide (a < b) || (a == b && ltCps r t)) = true ↔ _
    rw [List.cons_lt_cons_iff, Bool.or_eq_true, decide_eq_true_eq, Bool.and_eq_true, beq_iff_eq, ih]
theorem rising_pw : ∀ (ts : List T) (p : T), risingS (S p) (ts.map S) = true → (p :: ts).Pairwise fun a b => ¬ b < a
  | [], p, _ => by simp
  | x :: r, p, h => by
    have h : (!ltCps x p && risingS (S x) (r.map S)) = true := h
    rw [Bool.and_eq_true, Bool.not_eq_true'] at h
    have ih := rising_pw r x h.2
    have hx : ¬ x < p := fun z => by
      rw [ltCps_iff.mpr z] at h
      exact Bool.noConfusion h.1
    refine List.pairwise_cons.mpr ⟨fun y hy => ?_, ih⟩
    rcases List.mem_cons.1 hy with e | hy
    · subst e; exact hx
    · exact lex_le_trans hx ((List.pairwise_cons.mp ih).1 y hy)
theorem sorted_pw {ts : List T} (h : sortedS (ts.map S) = true) : ts.Pairwise fun a b => ¬ b < a := by
  cases ts with
  | nil => exact .nil
  | cons x r => exact rising_pw r x h
theorem one_ltP {a b : Nat} : (([a] : T) < [b]) ↔ a < b := by
  have := one_lt1 (a := a) (b := b)
  exact decide_eq_decide.mp this
theorem perm_texts {ys : List Str} {ts : List T} (h : ys.Perm (ts.map S)) : ∃ us : List T, us.Perm ts ∧ ys = us.map S := by
  refine ⟨ys.map fun y => y.cps.toList, ?_, ?_⟩
  · have h2 := h.map fun y => y.cps.toList
    rw [List.map_map] at h2
    have e : ((fun y : Str => y.cps.toList) ∘ S) = id := by funext x; rfl
    rw [e, List.map_id] at h2
    exact h2
  · rw [List.map_map]
    have e : (S ∘ fun y : Str => y.cps.toList) = id := by
      funext x
      show (⟨x.cps.toList.toArray⟩ : Str) = x
      cases x
      simp
    rw [e, List.map_id]
theorem map_S1 (z : T) : (z.map fun c => (⟨#[c]⟩ : Str)) = (z.map fun c => [c]).map S := by rw [List.map_map]; rfl
section
variable {K : PySem.W.Frag} {X : Cx} {σ : L2.St} {H H' : Hp} {ta tb te tx to : TE} {t u : TT} {x y z v : V}
theorem ev_sortT {z : T} (h : Ev te σ H (vS z)) (hz : z.length < 64) : EvL (tCB rSortT (tCons te tNil)) σ H ((isort z).map v1) := fun H1 e Q q =>
  h H1 e _ fun H2 e2 => ⟨S z, rfl, by rw [S_len]; exact hz, fun ys p hp hs hn => by
    have hp : ys.Perm ((z.map fun c => [c]).map S) := by rw [← map_S1]; exact hp
    obtain ⟨us, hu, rfl⟩ := perm_texts hp
    have h1 : us = (us.map headD).map fun c => [c] := by
      rw [List.map_map]
      conv => lhs; rw [← List.map_id us]
      refine List.map_congr_left fun u hu' => ?_
      obtain ⟨c, _, rfl⟩ := List.mem_map.mp (hu.mem_iff.mp hu')
      rfl
    have h2 : (us.map headD).Perm z := by
      have := hu.map headD
      rw [List.map_map] at this
      have e : (headD ∘ fun c : Nat => [c]) = id := by funext x; rfl
      rw [e, List.map_id] at this
      exact this
    have h3 : (us.map headD).Pairwise (· ≤ ·) := by
      have h4 := sorted_pw hs
      rw [h1] at h4
      refine (List.pairwise_map.mp h4).imp fun {a b} h => ?_
      have h7 : ¬ b < a := fun z => h (one_ltP.mpr z)
      omega
    have h5 : us.map headD = isort z := sorted_unique (h2.trans (isort_perm z).symm) h3 (isort_sorted z)
    have e6 : (us.map S).map V.str = (isort z).map v1 := by
      rw [← h5]
      conv => lhs; rw [h1]
      rw [List.map_map]; rw [List.map_map]
      rfl
    rw [e6]
    exact q p _ (fresh_back e2 hn) (e2.trans (Ex.new hn)) upd_same⟩
/-- min(list) -/
theorem ev_minL {p : Addr} {ts : List T} (ha : Ev ta σ H (.ref p)) (hx : SqL K H p (ts.map vS)) (hne : ts ≠ []) : Ev (tCB (rMinS K) (tCons ta tNil)) σ H (vS (minL ts)) := fun H1 e Q q =>
  ha H1 e _ fun H2 e2 => ⟨p, ts.map S, rfl, by rw [List.map_map]; exact ex_l (e.trans e2) hx, by simpa using hne, fun m hm hmin => by
    obtain ⟨a, ha, rfl⟩ := List.mem_map.mp hm
    have e3 : a = minL ts := minL_is ha fun y hy => hmin (S y) (List.mem_map_of_mem hy)
    subst e3
    exact q H2 e2⟩
/-- a new list from list(letters) -/
theorem el_listT {z : T} (h : Ev te σ H (vS z)) (hz : z.length ≤ 1000) : EvL (tCB rListT (tCons te tNil)) σ H (z.map v1) := fun H1 e Q q =>
  h H1 e _ fun H2 e2 => ⟨S z, rfl, by rw [S_len]; exact slen hz, fun l hl => q l _ (fresh_back e2 hl) (e2.trans (Ex.new hl)) upd_same⟩
theorem ei_tup {wi : TE} {xs : List V} (h : EvU wi σ H xs) : EvI (iTup K wi) σ H xs := fun H1 e R q =>
  h H1 e _ fun p H2 hn e2 hp => ⟨p, rfl, ⟨xs, st_of hp⟩, q _ H2 e2 ⟨_, walk_tup, fun H3 k => st_of (k p _ hp (.inr hn))⟩⟩
def RetU (xs : List V) (H : Hp) (Q : VK) : Prop := ∀ p H2, H p = none → Ex H H2 → H2 p = some (.tup xs) → Q (.ref p) H2
def SpU (sp : Sp) (vs : List V) (H : Hp) (xs : List V) : Prop := ∀ H1, Ex H H1 → ∀ Q : VK, (∀ p H2, H1 p = none → Ex H1 H2 → H2 p = some (.tup xs) → Q (.ref p) H2) → ∀ E : XK, sp vs H1 Q E
theorem eu_cal {sp : Sp} {vs xs : List V} {E : XK} {ta : TA} (h : EvA ta σ H vs) (hs : SpU sp vs H xs) : EvU (tCall sp [] E ta) σ H xs := fun H1 e Q q =>
  h H1 e _ fun H2 e2 => by
    rw [List.append_nil]
    exact hs H2 (e.trans e2) Q (fun p H3 hp e3 h3 => q p H3 (fresh_back e2 hp) (e2.trans e3) h3) E
theorem sq_upd {l q : Addr} {o : HO} {xs : List V} (hq : q ≠ l) (h : SqL K H q xs) : SqL K (upd H l o) q xs := by
  rcases h with ((h | ⟨o, h⟩) | h)
  · exact Or.inl (Or.inl (by rw [upd_ne hq]; exact h))
  · exact Or.inl (Or.inr ⟨o, by rw [upd_ne hq]; exact h⟩)
  · exact Or.inr h
end
section
variable {P : Program} {w : World} {K : PySem.W.Frag} {mg : Str → Option Value} {base : Heap} {W : Addr}
def spReq (K : PySem.W.Frag) (W : Addr) : Sp := fun vs H Q _ => ∃ (a t : Addr) (L : T) (C : List T), vs = [.ref a] ∧ WebAt K W H a t L C ∧ RetV .non H Q
theorem cal_require_web (wk : WK K W) (g : Top K mg W) (F : DefX K mg "require_web" srequire_web ["value"]) : Cal P w K mg base 1 "require_web" (spReq K W) :=
  cal_of (k := 0) F csrequire_web (fun vs H Q E h => by obtain ⟨a, t, L, C, rfl, _⟩ := h; rfl) fun f cdv A outer s H vs Q E hr h => by
    obtain ⟨a, t, L, C, rfl, hw, q⟩ := h
    refine ⟨_, (pss_one (ps_if (pt_not (pt_val (pe_callB (cr_isiSlK K (.ref W)) (by rfl) g.b_isinstance bt_isinstance (pa_cons (pv 0) (pa_cons (pe_glob (v := .ref W) (by rfl) g.webC rfl) pa_nil))))) pss_never pss_nil)), ?_⟩
    refine s_when (b := false) (et_is (et_not (et_B (b := true) (ev_cb (ea_cons (ev_var rfl) (ea_cons ev_c ea_nil)) fun H1 e1 Q q => ?_))) rfl) (fun h => nomatch h) fun _ H1 e1 => q H1 e1
    obtain ⟨dx, d, h1, h2, h3⟩ := web_ex e1 hw
    exact ⟨a, W, dx, _, .ref W, true, rfl, rfl, fun w r => r, h1, wk.sc, wk.isi, wk.ko, q H1 (Ex.refl _)⟩
def spBare (K : PySem.W.Frag) (W : Addr) : Sp := fun vs H Q _ => ∃ (a t b : Addr) (L : T) (C : List T) (ts : List T), vs = [.ref a, .ref b] ∧ WebAt K W H a t L C ∧ L.length ≤ 10 ∧ SqL K H b (ts.map vS) ∧ Okp L ts ∧ (∀ p ∈ ts, p ≠ []) ∧ ts.length ≤ 400000 ∧ RetL ((bareOf L C ts).map vS) H Q
theorem cal_bare_paths (wk : WK K W) (g : Top K mg W) (F : DefX K mg "bare_paths" sbare_paths ["web", "paths"]) (c_is_loose_from : Cal P w K mg base 1 "is_loose_from" (spLoose K W)) :
    Cal P w K mg base 2 "bare_paths" (spBare K W) :=
  cal_of (k := 1) F csbare_paths (fun vs H Q E h => by obtain ⟨a, t, b, L, C, ts, rfl, _⟩ := h; rfl) fun f cdv A outer s H vs Q E hr h => by
    obtain ⟨a, t, b, L, C, ts, rfl, hw, hL, hb, hok, hne, hts, q⟩ := h
    refine ⟨_, (pss_cons (ps_set (i := 2) csbare_paths.nd rfl (.inl rfl) (pe_lst pa_nil))
    (pss_cons (ps_for PassesOwn.never rfl (pi_listK K (pv 1)) (pg_name (i := 3) csbare_paths.nd rfl (.inr rfl))
    (pss_cons (ps_set (i := 4) csbare_paths.nd rfl (.inl rfl) (pe_dget (by exact hu_of hr) (pe_slK K (pv 0)) (pe_ix ix_str (pv 3) (pe_un un_neg pe_int) (fun _ _ => rfl)) (fun _ _ => rfl)))
    (pss_one (ps_expr (pe_bm PySem.F.plainAttrs_list PySem.F.slot_list_extend PySem.F.type_list_extend mt_extend (pv 2) (pa_cons (pe_lc (own := [("one", 5)]) rfl csbare_paths.nd (pi_str (pv 4)) (blkOk_by (by kernel_rfl)) (fun _ _ _ _ _ => (pg_name (i := 5) csbare_paths.nd rfl (by first | exact Or.inl rfl | exact Or.inr rfl))) (fun _ _ _ _ _ => (pts_one ((pw_and (pt_cmpR op_wNin (pv 5) (pv 3) (by rfl)) (pw_and1 (pt_val (pe_cal c_is_loose_from hr (by decide) (by rfl) (pa_cons (pv 0) (pa_cons (pv 5) (pa_cons (pe_slice sl_str (pv 3) po_none (po_some (pe_un un_neg pe_int))) pa_nil)))))))).pt)) (fun _ _ _ _ _ => (pe_op op_wAdd (pv 3) (pv 5)))) pa_nil))))))
    (pss_one (ps_ret (pv 2))))), ?_⟩
    refine q_asgL (xs := []) (el_lst ea_nil (Nat.zero_le _)) fun l H1 hl e1 h1 => ?_
    refine q_forM (l := l) (as := ts) (ew_name (inj := vS) (ei_listA (ev_var rfl) hb)) e1 hl (fun i => ((ts.take i).flatMap (bare1 L C)).map vS) h1 (fun i σ => ∃ y3 y4 y5, σ = [some (.ref a), some (.ref b), some (.ref l), y3, y4, y5]) ⟨_, _, _, rfl⟩ (fun i p σ' H' hi hσ e hl' N k => ?_) (fun σ' H' hσ e hl' => ?_)
    · obtain ⟨y3, y4, y5, rfl⟩ := hσ
      have hm := (List.mem_of_getElem? hi)
      have hg := hok p hm
      have hn := hne p hm
      refine q_asg (v := vS (row L C (lastD p))) (ev_close wk (web_ex e hw) (ev_var rfl) (ev_op (ev_var rfl) (ev_un ev_c ru_neg) (rv_ix (by omega) (atI_end hn))) (hg.2 _ (lastD_mem hn))) fun H2 e2 => ?_
      refine s_ext (l := l) (ys := (bare1 L C p).map vS) (e2 l _ hl') (ev_var rfl) ?_ ?_ fun H3 e3 => k _ _ ⟨_, _, _, rfl⟩ ((ExM.of (e2.trans e3)).trans ExM.upd) ?_
      · refine el_lcT (as := row L C (lastD p)) (fun c => !decide (c ∈ p) && looseFrom L C c p.dropLast) (fun c => p ++ [c]) (ew_name (ei_str (ev_var rfl))) (slen (Nat.le_trans row_len (by omega))) (fun _ _ => rfl) (fun x hx H3 e3 => ?_) fun x _ _ H3 _ => ev_op (ev_var rfl) (ev_var rfl) (rv_add (by simp; omega))
        refine et_and (et_test (ev_op (ev_var rfl) (ev_var rfl) rv_nin)) fun _ => et_B (ev_cal (ea_cons (ev_var rfl) (ea_cons (ev_var rfl) (ea_cons (ev_sl (ev_var rfl) eo_none (eo_some (ev_un ev_c ru_neg)) (by omega) (cut_but p)) ea_nil))) fun H4 e4 Q q E => ⟨a, t, L, C, x, p.dropLast, rfl, web_ex ((e.trans e2).trans (e3.trans e4)) hw, row_sub hx, by rw [List.length_dropLast]; omega, q⟩)
      · have n1 := flat_take_len (i := i) (f := bare1 L C) hts fun _ _ => Nat.le_trans bare1_len hL
        have n2 := bare1_len (L := L) (p := p) (C := C)
        rw [List.length_map, List.length_map]
        have : sizeLine = 16777216 := rfl
        omega
      · show upd H3 l _ l = _
        rw [upd_same, flat_take hi, List.map_append]
    · obtain ⟨y3, y4, y5, rfl⟩ := hσ
      rw [List.take_length] at hl'
      exact s_ret (v := .ref l) (ev_var rfl) fun H2 e2 => q l H2 hl ((ExM.ex e1 hl e).trans e2) (e2 l _ hl')
def spRings (K : PySem.W.Frag) (W : Addr) : Sp := fun vs H Q _ => ∃ (a t : Addr) (L : T) (C : List T) (p : T), vs = [.ref a, vS p] ∧ WebAt K W H a t L C ∧ L.length ≤ 10 ∧ 2 ≤ p.length ∧ p.length ≤ 20 ∧ (∀ x ∈ p, x ∈ L) ∧ RetL ((ringsBy L C p).map vS) H Q
theorem cal_rings_by (wk : WK K W) (g : Top K mg W) (F : DefX K mg "rings_by" srings_by ["web", "path"]) (c_is_loose_from : Cal P w K mg base 1 "is_loose_from" (spLoose K W)) :
    Cal P w K mg base 2 "rings_by" (spRings K W) :=
  cal_of (k := 1) F csrings_by (fun vs H Q E h => by obtain ⟨a, t, L, C, p, rfl, _⟩ := h; rfl) fun f cdv A outer s H vs Q E hr h => by
    obtain ⟨a, t, L, C, p, rfl, hw, hL, h2, h20, hp, q⟩ := h
    have hn : p ≠ [] := fun z => by subst z; simp at h2
    refine ⟨_, (pss_cons (ps_set (i := 2) csrings_by.nd rfl (.inl rfl) (pe_dget (by exact hu_of hr) (pe_slK K (pv 0)) (pe_ix ix_str (pv 1) (pe_un un_neg pe_int) (fun _ _ => rfl)) (fun _ _ => rfl)))
    (pss_cons (ps_setLc (i := 3) (own := [("one", 4)]) rfl csrings_by.nd rfl rfl (sw_true rfl rfl rfl (by kernel_rfl)) (pi_str (pv 2)) (blkOk_by (by kernel_rfl)) (fun _ _ _ _ _ => (pg_name (i := 4) csrings_by.nd rfl (by first | exact Or.inl rfl | exact Or.inr rfl))) (fun _ _ _ _ _ => (pts_one ((pw_and (pt_cmpR op_wGt (pv 4) (pe_ix ix_str (pv 1) pe_int (fun _ _ => rfl)) (by rfl)) (pw_and1 (pt_cmpR op_wIn (pv 4) (pe_dget (by exact hu_of hr) (pe_slK K (pv 0)) (pe_ix ix_str (pv 1) pe_int (fun _ _ => rfl)) (fun _ _ => rfl)) (by rfl))))).pt)) (fun _ _ _ _ _ => (pv 4)))
    (pss_one (ps_ret (pe_lc (own := [("one", 4)]) rfl csrings_by.nd (pi_listK K (pv 3)) (blkOk_by (by kernel_rfl)) (fun _ _ _ _ _ => (pg_name (i := 4) csrings_by.nd rfl (by first | exact Or.inl rfl | exact Or.inr rfl))) (fun _ _ _ _ _ => (pts_one ((pw_and (pt_cmpR op_wNin (pv 4) (pv 1) (by rfl)) (pw_and1 (pt_val (pe_cal c_is_loose_from hr (by decide) (by rfl) (pa_cons (pv 0) (pa_cons (pv 4) (pa_cons (pe_slice sl_str (pv 1) (po_some pe_int) (po_some (pe_un un_neg pe_int))) pa_nil)))))))).pt)) (fun _ _ _ _ _ => (pe_op op_wAdd (pv 1) (pv 4)))))))), ?_⟩
    refine q_asg (v := vS (row L C (lastD p))) (ev_close wk hw (ev_var rfl) (ev_op (ev_var rfl) (ev_un ev_c ru_neg) (rv_ix (by omega) (atI_end hn))) (hp _ (lastD_mem hn))) fun H1 e1 => ?_
    refine q_asgL (xs := (endsOf L C p).map v1) (el_lcC (as := row L C (lastD p)) (fun c => decide (secD p < c) && decide (c ∈ row L C (headD p))) (ew_name (ei_str (ev_var rfl))) (slen (Nat.le_trans row_len (by omega))) (fun _ _ => rfl) (fun x hx H2 e2 => ?_) fun x _ _ H2 _ => ev_var rfl) fun q1 H2 hq e2 h2' => ?_
    · refine et_and (et_is (et_test (ev_op (ev_var rfl) (ev_op (ev_var rfl) ev_c (rv_ix (by omega) (atI_sec h2))) (rv_gt (a := [x]) (b := [secD p])))) one_lt1) fun _ => et_test (ev_op (ev_var rfl) (ev_close wk (web_ex (e1.trans e2) hw) (ev_var rfl) (ev_op (ev_var rfl) ev_c (rv_ix (by omega) (atI_first hn))) (hp _ (headD_mem hn))) rv_in)
    · refine s_retL (xs := (ringsBy L C p).map vS) (el_lcT (as := endsOf L C p) (fun c => !decide (c ∈ p) && looseFrom L C c (p.drop 1).dropLast) (fun c => p ++ [c]) (ew_name (ei_listA (ev_var rfl) (sq_of h2'))) (slen (Nat.le_trans (List.length_filter_le _ _) (Nat.le_trans row_len (by omega)))) (fun _ _ => rfl) (fun x hx H3 e3 => ?_) fun x _ _ H3 _ => ev_op (ev_var rfl) (ev_var rfl) (rv_add (by simp; omega))) fun r H3 hr e3 h3 => q r H3 (fresh_back (e1.trans e2) hr) ((e1.trans e2).trans e3) h3
      refine et_and (et_test (ev_op (ev_var rfl) (ev_var rfl) rv_nin)) fun _ => et_B (ev_cal (ea_cons (ev_var rfl) (ea_cons (ev_var rfl) (ea_cons (ev_sl (ev_var rfl) (eo_some ev_c) (eo_some (ev_un ev_c ru_neg)) (by omega) (cut_mid p)) ea_nil))) fun H4 e4 Q q E => ⟨a, t, L, C, x, (p.drop 1).dropLast, rfl, web_ex ((e1.trans e2).trans (e3.trans e4)) hw, row_sub (List.mem_filter.mp hx).1, by rw [List.length_dropLast, List.length_drop]; omega, q⟩)
end
end WW

/-! the walk: loose groups, paths of four, the ring, claws, fans, is_elimination -/
namespace WW
open PySem PySem.Spec PyProof.Rows L2 Evl
def vO : Option T → V
  | none => .non
  | some t => vS t
section
variable {K : PySem.W.Frag} {X : Cx} {σ : L2.St} {H H' : Hp} {ta tb te tx to : TE} {t u : TT} {x y z v : V}
theorem eu_tupleA {p : Addr} {xs : List V} (ha : Ev ta σ H (.ref p)) (hx : SqL K H p xs) : EvU (tCB (rTupleS K) (tCons ta tNil)) σ H xs := fun H1 e Q q =>
  ha H1 e _ fun H2 e2 => ⟨p, xs, rfl, .inl ⟨ex_l (e.trans e2) hx, fun l hl => q l _ (fresh_back e2 hl) (e2.trans (Ex.new hl)) upd_same⟩⟩
theorem eu_tupleL {xs : List V} (ha : EvL ta σ H xs) : EvU (tCB (rTupleS K) (tCons ta tNil)) σ H xs := fun H1 e Q q =>
  ha H1 e _ fun p H2 _ e2 hp => ⟨p, xs, rfl, .inl ⟨sq_of hp, fun l hl => q l _ (fresh_back e2 hl) (e2.trans (Ex.new hl)) upd_same⟩⟩
theorem isE_map {α β : Type} {f : α → β} (l : List α) : (l.map f).isEmpty = l.isEmpty := by cases l <;> rfl
/-- a, b = (list, list) -/
theorem q_parLL {D : Ends} {tz : TS} {i j : Nat} {xs ys : List V} (ha : EvL ta σ H xs) (hb : EvL tb σ H ys) (k : ∀ p q H2, H p = none → H q = none → p ≠ q → Ex H H2 → H2 p = some (.lst xs) → H2 q = some (.lst ys) → tz D ((σ.set i (some (.ref p))).set j (some (.ref q))) H2) :
    tSeq (tPar i j (tCons ta (tCons tb tNil))) tz D σ H :=
  ha H (Ex.refl _) _ fun p H1 hp e1 h1 => hb H1 e1 _ fun q H2 hq e2 h2 => ⟨.ref p, .ref q, rfl, k p q H2 hp (fresh_back e1 hq) (fun z => by rw [← z, h1] at hq; cases hq) (e1.trans e2) (e2 p _ h1) h2⟩
theorem q_parVV {D : Ends} {tz : TS} {i j : Nat} (ha : Ev ta σ H x) (hb : Ev tb σ H y) (k : ∀ H2, Ex H H2 → tz D ((σ.set i (some x)).set j (some y)) H2) : tSeq (tPar i j (tCons ta (tCons tb tNil))) tz D σ H :=
  ha H (Ex.refl _) _ fun H1 e1 => hb H1 e1 _ fun H2 e2 => ⟨x, y, rfl, k H2 (e1.trans e2)⟩
/-- xs[0] if xs != [] else None -/
theorem ev_first {p : Addr} {ts : List T} {tn : TE} (h0 : EvL tn σ H []) (ha : Ev ta σ H (.ref p)) (hx : SqL K H p (ts.map vS)) : Ev (tIf (tTest (tOp (wNeNil K) ta tn)) (tOp (rIxL K) ta (tC (.int 0))) (tC .non)) σ H (vO ts.head?) := by
  refine ev_if (et_test (ev_neNilA ha hx h0)) (fun h => ?_) (fun h => ?_)
  · rw [isE_map] at h
    cases ts with
    | nil => cases h
    | cons a r => exact ev_op ha ev_c (rv_ixA hx (atI_nat (j := 0) rfl))
  · rw [isE_map] at h
    cases ts with
    | nil => exact ev_c
    | cons a r => cases h
end
section
variable {P : Program} {w : World} {K : PySem.W.Frag} {mg : Str → Option Value} {base : Heap} {W : Addr}
theorem okp_lay {L : T} {k : Nat} {ts : List T} (h : Lay L k ts) (hk : k ≤ 20) : Okp L ts := lay_okp h hk
theorem ok_lay {L : T} {k : Nat} {ts : List T} (hL : L.length ≤ 9) (h : Lay L k ts) : Okp L ts := by
  by_cases hne : ts = []
  · subst hne
    exact fun p hp => nomatch hp
  · have := lay_len h hne
    exact lay_okp h (by omega)
theorem dsc_400 {n k m : Nat} (hn : n ≤ 9) (hk : k ≤ 10) (h : m ≤ dsc n k) : m ≤ 400000 := Nat.le_trans h (Nat.le_trans (dsc_le hn hk) (by decide))
def spGroups (K : PySem.W.Frag) (W : Addr) : Sp := fun vs H Q _ => ∃ (a t : Addr) (L : T) (C : List T), vs = [.ref a] ∧ WebAt K W H a t L C ∧ L.length ≤ 9 ∧ L.Nodup ∧ RetU ((looseAll L C).map vS) H Q
theorem cal_loose_groups (wk : WK K W) (g : Top K mg W) (F : DefX K mg "loose_groups" sloose_groups ["web"]) (c_require_web : Cal P w K mg base 1 "require_web" (spReq K W)) (c_groups_of_one_more : Cal P w K mg base 2 "groups_of_one_more" (spMore K W)) :
    Cal P w K mg base 3 "loose_groups" (spGroups K W) :=
  cal_of (k := 2) F csloose_groups (fun vs H Q E h => by obtain ⟨a, t, L, C, rfl, _⟩ := h; rfl) fun f cdv A outer s H vs Q E hr h => by
    obtain ⟨a, t, L, C, rfl, hw, h9, hL, q⟩ := h
    refine ⟨_, (pss_cons (ps_expr (pe_cal c_require_web hr (by decide) (by rfl) (pa_cons (pv 0) pa_nil)))
    (pss_cons (ps_par (i := 1) (j := 2) rfl csloose_groups.nd rfl rfl (by decide) rfl rfl (pa_cons (pe_lst pa_nil) (pa_cons (pe_lst (pa_cons pe_str pa_nil)) pa_nil)) (by rfl))
    (pss_cons (ps_while PassesOwn.never (pt_cmpR (op_neNilK K (by exact hr.units)) (pv 2) (pe_lst pa_nil) (by rfl))
    (pss_cons (ps_expr (pe_bm PySem.F.plainAttrs_list PySem.F.slot_list_extend PySem.F.type_list_extend mt_extend (pv 1) (pa_cons (pe_callTy (cr_listK K) (by rfl) g.b_list bt_list (pa_cons (pv 2) pa_nil)) pa_nil)))
    (pss_one (ps_set (i := 2) csloose_groups.nd rfl (.inl rfl) (pe_cal c_groups_of_one_more hr (by decide) (by rfl) (pa_cons (pv 0) (pa_cons (pv 2) pa_nil)))))))
    (pss_one (ps_ret (pe_callTy (cr_tupleK K) (by rfl) g.b_tuple bt_tuple (pa_cons (pv 1) pa_nil))))))), ?_⟩
    refine q_drop (v := .non) (ev_cal (ea_cons (ev_var rfl) ea_nil) fun H1 e Q q E => ⟨a, t, L, C, rfl, web_ex e hw, q⟩) fun H1 e1 => ?_
    refine q_parLL (xs := []) (ys := [vS []]) el_nil (el_lst (ea_cons ev_c ea_nil) (by decide)) fun l r H3 hl hr3 nlr e3 h2 h3 => ?_
    have hlH : H l = none := fresh_back e1 hl
    have nrl : r ≠ l := fun z => nlr z.symm
    refine q_while (fun m σ H' => ∃ k r', m + k = L.length + 1 ∧ σ = [some (.ref a), some (.ref l), some (.ref r')] ∧ r' ≠ l ∧ Ex H H' ∧ H' l = some (.lst ((upto L C k).map vS)) ∧ SqL K H' r' ((layer L C k).map vS)) (L.length + 1)
      ⟨0, r, rfl, rfl, nrl, e1.trans e3, h2, sq_of h3⟩ fun m σ' H' hW => ?_
    obtain ⟨k, r', hm, rfl, nr, e, hf, hs⟩ := hW
    have ly := layer_ok (C := C) hL k
    refine ⟨!(layer L C k).isEmpty, et_is (et_test (ev_neNilA (ev_var rfl) hs el_nil)) (by rw [isE_map]), fun hb H4 e4 => ?_, fun hb H4 e4 => ?_⟩
    · have hne : layer L C k ≠ [] := fun z => by rw [z] at hb; cases hb
      have hk := layer_end hL hne
      refine ⟨fun σ H' => ∃ k r', m - 1 + k = L.length + 1 ∧ σ = [some (.ref a), some (.ref l), some (.ref r')] ∧ r' ≠ l ∧ Ex H H' ∧ H' l = some (.lst ((upto L C k).map vS)) ∧ SqL K H' r' ((layer L C k).map vS), fun σ2 H2 hN => ⟨m - 1, by omega, hN⟩, ?_⟩
      refine q_ext (l := l) (ys := (layer L C k).map vS) (e4 l _ hf) (ev_var rfl) (el_list (ev_var rfl) (ex_l e4 hs)) ?_ fun H5 e5 => ?_
      · have n1 := upto_len (C := C) hL h9 k (by omega)
        have n2 := dsc_400 h9 (by omega) ly.2
        rw [List.length_map, List.length_map]
        have : sizeLine = 16777216 := rfl
        omega
      · have ex : Ex H (upd H5 l (.lst ((upto L C k).map vS ++ (layer L C k).map vS))) := Ex.mut (e.trans (e4.trans e5)) hlH
        refine s_asgL (xs := (layer L C (k + 1)).map vS) (el_cal (ea_cons (ev_var rfl) (ea_cons (ev_var rfl) ea_nil)) fun H6 e6 Q q E => ⟨a, t, r', L, C, layer L C k, rfl, web_ex (ex.trans e6) hw, by omega, ex_l e6 (sq_upd nr (ex_l (e4.trans e5) hs)), ok_lay h9 ly.1.1, dsc_400 h9 (by omega) ly.2, q⟩) fun p H6 hp e6 h6 => ?_
        refine ⟨k + 1, p, by omega, rfl, fun z => ?_, ex.trans e6, ?_, sq_of h6⟩
        · rw [z, upd_same] at hp
          cases hp
        · rw [e6 l _ upd_same, upto_succ, List.map_append]
    · have hn : layer L C k = [] := by
        cases hx : layer L C k with
        | nil => rfl
        | cons a r => rw [hx] at hb; cases hb
      have ed : upto L C k = looseAll L C := by
        unfold looseAll
        rw [show L.length + 1 = k + (L.length + 1 - k) by omega, upto_done hn]
      refine s_retU (xs := (looseAll L C).map vS) (eu_tupleA (ev_var rfl) (sq_of ?_)) fun p H5 hp e5 h5 => q p H5 (fresh_back (e.trans e4) hp) ((e.trans e4).trans e5) h5
      rw [← ed]
      exact e4 l _ hf
def spFour (K : PySem.W.Frag) (W : Addr) : Sp := fun vs H Q _ => ∃ (a t : Addr) (L : T) (C : List T), vs = [.ref a] ∧ WebAt K W H a t L C ∧ L.length ≤ 9 ∧ L.Nodup ∧ RetL ((fourOf L C).map vS) H Q
theorem lay_ne {L : T} {k : Nat} {ts : List T} (h : Lay L (k + 1) ts) : ∀ p ∈ ts, p ≠ [] := fun p hp z => by
  have := (h p hp).2.1
  rw [z] at this
  cases this
theorem cal_paths_of_four (wk : WK K W) (g : Top K mg W) (F : DefX K mg "paths_of_four" spaths_of_four ["web"]) (c_bare_paths : Cal P w K mg base 2 "bare_paths" (spBare K W)) : Cal P w K mg base 3 "paths_of_four" (spFour K W) :=
  cal_of (k := 2) F cspaths_of_four (fun vs H Q E h => by obtain ⟨a, t, L, C, rfl, _⟩ := h; rfl) fun f cdv A outer s H vs Q E hr h => by
    obtain ⟨a, t, L, C, rfl, hw, h9, hL, q⟩ := h
    refine ⟨_, (pss_cons (ps_set (i := 1) cspaths_of_four.nd rfl (.inl rfl) (pe_callTy (cr_listT rfl) (by rfl) g.b_list bt_list (pa_cons (pe_slK K (pv 0)) pa_nil)))
    (pss_cons (ps_for PassesOwn.never rfl (pi_range1 (by rfl) g.b_range (pa_cons pe_int pa_nil)) (pg_name (i := 2) cspaths_of_four.nd rfl (.inl rfl))
    (pss_one (ps_set (i := 1) cspaths_of_four.nd rfl (.inl rfl) (pe_cal c_bare_paths hr (by decide) (by rfl) (pa_cons (pv 0) (pa_cons (pv 1) pa_nil))))))
    (pss_one (ps_ret (pe_lc (own := [("path", 3)]) rfl cspaths_of_four.nd (pi_listK K (pv 1)) (blkOk_by (by kernel_rfl)) (fun _ _ _ _ _ => (pg_name (i := 3) cspaths_of_four.nd rfl (by first | exact Or.inl rfl | exact Or.inr rfl))) (fun _ _ _ _ _ => (pts_one (pt_cmpR op_wLt (pe_ix ix_str (pv 3) pe_int (fun _ _ => rfl)) (pe_ix ix_str (pv 3) (pe_un un_neg pe_int) (fun _ _ => rfl)) (by rfl)))) (fun _ _ _ _ _ => (pv 3))))))), ?_⟩
    refine q_asgL (xs := L.map v1) (el_listT (ev_letters wk hw (ev_var rfl)) (by omega)) fun r H1 hr1 e1 h1 => ?_
    refine q_forR1 (n := 3) (ea_cons ev_c ea_nil) (by decide) (fun i σ H' => ∃ r' y2 y3, σ = [some (.ref a), some (.ref r'), y2, y3] ∧ Ex H H' ∧ SqL K H' r' ((pathsAt L C i).map vS)) (fun H2 e2 => ⟨r, _, _, rfl, e1.trans e2, by
      have := e2 r _ h1
      rw [map_v1] at this
      exact sq_of this⟩) (fun i σ' H' hi hP => ?_) (fun σ' H' hP => ?_)
    · obtain ⟨r', y2, y3, rfl, e, hs⟩ := hP
      have po := paths_ok (C := C) hL i
      refine s_asgL (xs := (pathsAt L C (i + 1)).map vS) (el_cal (ea_cons (ev_var rfl) (ea_cons (ev_var rfl) ea_nil)) fun H2 e2 Q q E => ⟨a, t, r', L, C, pathsAt L C i, rfl, web_ex (e.trans e2) hw, by omega, ex_l e2 hs, ok_lay h9 po.1, lay_ne po.1, dsc_400 h9 (by omega) po.2, q⟩) fun p H2 hp e2 h2 => ⟨p, _, _, rfl, e.trans e2, sq_of h2⟩
    · obtain ⟨r', y2, y3, rfl, e, hs⟩ := hP
      have po := paths_ok (C := C) hL 3
      have len4 : ∀ p ∈ pathsAt L C 3, p.length = 4 := fun p hp => (po.1 p hp).2.1
      refine s_retL (xs := (fourOf L C).map vS) ?_ fun p H2 hp e2 h2 => q p H2 (fresh_back e hp) (e.trans e2) h2
      have r := el_lcT (te := tVar 3) (t := tTest (tOp wLt (tOp rIxS (tVar 3) (tC (.int 0))) (tOp rIxS (tVar 3) (tUn (rU fun i => .int (-i)) (tC (.int 1)))))) (vs := [3]) (as := pathsAt L C 3) (fun p => decide (headD p < lastD p)) (fun p => p) (ew_name (j := 3) (inj := vS) (ei_listA (K := K) (te := tVar 1) (σ := [some (.ref a), some (.ref r'), y2, y3]) (ev_var rfl) hs)) (Nat.le_trans (dsc_400 h9 (by omega) po.2) (by decide)) (fun _ _ => rfl) (fun p hp H2 e2 => ?_) (fun p _ _ H2 _ => ev_var rfl)
      · rw [List.map_id'] at r
        exact r
      · have hn := lay_ne po.1 p hp
        have := len4 p hp
        exact et_is (et_test (ev_op (ev_op (ev_var rfl) ev_c (rv_ix (by omega) (atI_first hn))) (ev_op (ev_var rfl) (ev_un ev_c ru_neg) (rv_ix (by omega) (atI_end hn))) (rv_lt (a := [headD p]) (b := [lastD p])))) one_lt1
def spClaw (K : PySem.W.Frag) (W : Addr) : Sp := fun vs H Q _ => ∃ (a t : Addr) (L : T) (C : List T), vs = [.ref a] ∧ WebAt K W H a t L C ∧ L.length ≤ 9 ∧ L.Nodup ∧ RetV (vO (clawsOf L C).head?) H Q
theorem cal_claw (wk : WK K W) (g : Top K mg W) (F : DefX K mg "claw" sclaw ["web"]) (c_require_web : Cal P w K mg base 1 "require_web" (spReq K W)) (c_loose_groups : Cal P w K mg base 3 "loose_groups" (spGroups K W)) (c_is_center : Cal P w K mg base 1 "is_center" (spCenter K W)) :
    Cal P w K mg base 4 "claw" (spClaw K W) :=
  cal_of (k := 3) F csclaw (fun vs H Q E h => by obtain ⟨a, t, L, C, rfl, _⟩ := h; rfl) fun f cdv A outer s H vs Q E hr h => by
    obtain ⟨a, t, L, C, rfl, hw, h9, hL, q⟩ := h
    have lu := upto_len (C := C) hL h9 (L.length + 1) (by omega)
    have l3 := layer_ok (C := C) hL 3
    have t3 := triples_eq (C := C) hL
    refine ⟨_, (pss_cons (ps_expr (pe_cal c_require_web hr (by decide) (by rfl) (pa_cons (pv 0) pa_nil)))
    (pss_cons (ps_set (i := 1) csclaw.nd rfl (.inr rfl) (pe_lc (own := [("group", 3)]) rfl csclaw.nd (pi_tupK K (pe_cal c_loose_groups hr (by decide) (by rfl) (pa_cons (pv 0) pa_nil))) (blkOk_by (by kernel_rfl)) (fun _ _ _ _ _ => (pg_name (i := 3) csclaw.nd rfl (by first | exact Or.inl rfl | exact Or.inr rfl))) (fun _ _ _ _ _ => (pts_one (pt_cmpR op_eq (pe_callB cr_wLenT (by rfl) g.b_len bt_len (pa_cons (pv 3) pa_nil)) pe_int (by rfl)))) (fun _ _ _ _ _ => (pv 3))))
    (pss_cons (ps_setLc2 (i := 2) (own := [("one", 4), ("group", 3)]) (vs1 := [3]) rfl csclaw.nd rfl rfl (sw_true rfl rfl rfl (by kernel_rfl)) (pi_str (pe_slK K (pv 0))) (blkOk_by (by kernel_rfl)) (by decide) (fun _ _ _ _ _ => (pg_name (i := 4) csclaw.nd rfl (by first | exact Or.inl rfl | exact Or.inr rfl))) (fun _ _ _ _ _ => pts_nil) (fun _ _ _ _ _ => (pi_listK K (pv 1))) (fun _ _ _ _ _ => (pg_name (i := 3) csclaw.nd rfl (by first | exact Or.inl rfl | exact Or.inr rfl))) (fun _ _ _ _ _ => (pts_one (pt_val (pe_cal c_is_center hr (by decide) (by rfl) (pa_cons (pv 0) (pa_cons (pv 4) (pa_cons (pv 3) pa_nil))))))) (fun _ _ _ _ _ => (pe_op op_wAdd (pv 4) (pv 3))))
    (pss_one (ps_ret (pe_ifExp (pt_cmpR (op_neNilK K (by exact hr.units)) (pv 2) (pe_lst pa_nil) (by rfl)) (pe_ix (ix_listK K) (pv 2) pe_int (fun _ _ => rfl)) pe_non)))))), ?_⟩
    refine q_drop (v := .non) (ev_cal (ea_cons (ev_var rfl) ea_nil) fun H1 e Q q E => ⟨a, t, L, C, rfl, web_ex e hw, q⟩) fun H1 e1 => ?_
    refine q_asgL (xs := (layer L C 3).map vS) ?_ fun r H2 hr2 e2 h2 => ?_
    · have r := el_lcT (te := tVar 3) (t := tTest (tOp rEq (tCB wLenT (tCons (tVar 3) tNil)) (tC (.int 3)))) (vs := [3]) (as := looseAll L C) (fun p => decide (p.length = 3)) (fun p => p) (ew_name (j := 3) (inj := vS) (ei_tup (K := K) (H := H1) (eu_cal (E := E0) (sp := spGroups K W) (σ := [some (.ref a), none, none, none, none]) (ea_cons (ev_var (i := 0) rfl) ea_nil) fun H2 e2 Q q E => ⟨a, t, L, C, rfl, web_ex (e1.trans e2) hw, h9, hL, q⟩))) ?_ (fun _ _ => rfl) (fun p hp H2 e2 => ?_) (fun p _ _ H2 _ => ev_var rfl)
      · rw [List.map_id', t3] at r
        exact r
      · have : sizeLine = 16777216 := rfl
        show (upto L C (L.length + 1)).length ≤ _
        omega
      · have hl : p.length ≤ 100 := by
          obtain ⟨k, hk, hp⟩ := List.mem_flatMap.mp hp
          rw [((layer_ok hL k).1.1 p hp).2.1]
          have := List.mem_range.mp hk
          omega
        refine et_is (et_test (ev_op (ev_lenT (ev_var rfl) (by omega)) ev_c (rv_eq rfl))) ?_
        by_cases h : p.length = 3
        · rw [decide_eq_true h, h]; rfl
        · rw [decide_eq_false h, decide_eq_false]
          intro z
          have := V.int.inj z
          omega
    · refine q_asgL (xs := (clawsOf L C).map vS) ?_ fun r2 H3 hr3 e3 h3 => ?_
      · unfold clawsOf
        rw [t3]
        refine el_lc2T (as := L) (bs := fun _ => layer L C 3) (fun c g => center L C c g) (fun c g => [c] ++ g) (ew_name (ei_str (ev_letters wk (web_ex (e1.trans e2) hw) (ev_var rfl)))) ?_ (fun _ _ => rfl) (fun c _ H3 e3 => ew_name (inj := vS) (ei_listA (ev_var rfl) (sq_of (e3 r _ h2)))) (fun _ _ _ _ => rfl) (fun c hc gr hg H3 e3 => ?_) (fun c hc gr hg _ H3 e3 => ?_)
        · have n2 := dsc_400 h9 (by omega) l3.2
          refine Nat.le_trans (flat_len2 h9 fun _ _ => n2) (by decide)
        · have := (l3.1.1 gr hg).2.1
          exact et_B (ev_cal (ea_cons (ev_var rfl) (ea_cons (ev_var rfl) (ea_cons (ev_var rfl) ea_nil))) fun H4 e4 Q q E => ⟨a, t, L, C, c, gr, rfl, web_ex ((e1.trans e2).trans (e3.trans e4)) hw, hc, by omega, q⟩)
        · have := (l3.1.1 gr hg).2.1
          exact ev_op (ev_var rfl) (ev_var rfl) (rv_add (a := [c]) (by simp; omega))
      · exact s_ret (v := vO (clawsOf L C).head?) (ev_first el_nil (ev_var rfl) (sq_of h3)) fun H4 e4 => q H4 (((e1.trans e2).trans e3).trans e4)
theorem cal_fan (wk : WK K W) (g : Top K mg W) (F : DefX K mg "fan" sfan ["web"]) (c_require_web : Cal P w K mg base 1 "require_web" (spReq K W)) (c_paths_of_four : Cal P w K mg base 3 "paths_of_four" (spFour K W)) (c_is_center : Cal P w K mg base 1 "is_center" (spCenter K W)) :
    Cal P w K mg base 4 "fan" (fun vs H Q _ => ∃ (a t : Addr) (L : T) (C : List T), vs = [.ref a] ∧ WebAt K W H a t L C ∧ L.length ≤ 9 ∧ L.Nodup ∧ RetV (vO (fansOf L C).head?) H Q) :=
  cal_of (k := 3) F csfan (fun vs H Q E h => by obtain ⟨a, t, L, C, rfl, _⟩ := h; rfl) fun f cdv A outer s H vs Q E hr h => by
    obtain ⟨a, t, L, C, rfl, hw, h9, hL, q⟩ := h
    have po := paths_ok (C := C) hL 3
    refine ⟨_, (pss_cons (ps_expr (pe_cal c_require_web hr (by decide) (by rfl) (pa_cons (pv 0) pa_nil)))
    (pss_cons (ps_setLc2 (i := 1) (own := [("path", 2), ("one", 3)]) (vs1 := [3]) rfl csfan.nd rfl rfl (sw_true rfl rfl rfl (by kernel_rfl)) (pi_listK K (pe_cal c_paths_of_four hr (by decide) (by rfl) (pa_cons (pv 0) pa_nil))) (blkOk_by (by kernel_rfl)) (by decide) (fun _ _ _ _ _ => (pg_name (i := 2) csfan.nd rfl (by first | exact Or.inl rfl | exact Or.inr rfl))) (fun _ _ _ _ _ => pts_nil) (fun _ _ _ _ _ => (pi_str (pe_slK K (pv 0)))) (fun _ _ _ _ _ => (pg_name (i := 3) csfan.nd rfl (by first | exact Or.inl rfl | exact Or.inr rfl))) (fun _ _ _ _ _ => (pts_one (pt_val (pe_cal c_is_center hr (by decide) (by rfl) (pa_cons (pv 0) (pa_cons (pv 3) (pa_cons (pv 2) pa_nil))))))) (fun _ _ _ _ _ => (pe_op op_wAdd (pv 2) (pv 3))))
    (pss_one (ps_ret (pe_ifExp (pt_cmpR (op_neNilK K (by exact hr.units)) (pv 1) (pe_lst pa_nil) (by rfl)) (pe_ix (ix_listK K) (pv 1) pe_int (fun _ _ => rfl)) pe_non))))), ?_⟩
    refine q_drop (v := .non) (ev_cal (ea_cons (ev_var rfl) ea_nil) fun H1 e Q q E => ⟨a, t, L, C, rfl, web_ex e hw, q⟩) fun H1 e1 => ?_
    refine q_asgL (xs := (fansOf L C).map vS) ?_ fun r2 H3 hr3 e3 h3 => ?_
    · refine el_lc2T (as := fourOf L C) (bs := fun _ => L) (fun p c => center L C c p) (fun p c => p ++ [c]) (ew_name (inj := vS) (ei_list (el_cal (ea_cons (ev_var rfl) ea_nil) fun H2 e2 Q q E => ⟨a, t, L, C, rfl, web_ex (e1.trans e2) hw, h9, hL, q⟩))) ?_ (fun _ _ => rfl) (fun c _ H3 e3 => ew_name (ei_str (ev_letters wk (web_ex (e1.trans e3) hw) (ev_var rfl)))) (fun _ _ _ _ => rfl) (fun p hp c hc H3 e3 => ?_) (fun p hp c hc _ H3 e3 => ?_)
      · have n2 := Nat.le_trans (List.length_filter_le (fun p => decide (headD p < lastD p)) (pathsAt L C 3)) (dsc_400 h9 (by omega) po.2)
        refine Nat.le_trans (flat_len2 n2 fun _ _ => h9) (by decide)
      · have := (po.1 p (List.mem_filter.mp hp).1).2.1
        exact et_B (ev_cal (ea_cons (ev_var rfl) (ea_cons (ev_var rfl) (ea_cons (ev_var rfl) ea_nil))) fun H4 e4 Q q E => ⟨a, t, L, C, c, p, rfl, web_ex (e1.trans (e3.trans e4)) hw, hc, by omega, q⟩)
      · have := (po.1 p (List.mem_filter.mp hp).1).2.1
        exact ev_op (ev_var rfl) (ev_var rfl) (rv_add (by simp; omega))
    · exact s_ret (v := vO (fansOf L C).head?) (ev_first el_nil (ev_var rfl) (sq_of h3)) fun H4 e4 => q H4 ((e1.trans e3).trans e4)
end
end WW

/-! the walk: the chordless ring, is_elimination -/
namespace WW
open PySem PySem.Spec PyProof.Rows L2 Evl
section
variable {α β : Type} {K : PySem.W.Frag} {X : Cx} {σ : L2.St} {H H' : Hp} {ta tb te tx to : TE} {t u : TT} {x y z v : V} {wi wi1 : TI} {g g1 : TG} {j : Nat} {vs vs1 : List Nat}
/-- the items themselves -/
theorem el_lcP {as : List T} {st : T → L2.St → L2.St} (p : T → Bool) (h : EvW wi g σ H as st) (hz : as.length ≤ sizeLine) (hw : ∀ a ∈ as, wipe (st a (wipe σ vs)) vs = wipe σ vs)
    (ht : ∀ a ∈ as, ∀ H1, Ex H H1 → EvT t (st a (wipe σ vs)) H1 (p a)) (he : ∀ a ∈ as, p a = true → ∀ H1, Ex H H1 → Ev te (st a (wipe σ vs)) H1 (vS a)) :
    EvL (tLc wi g t te vs) σ H ((as.filter p).map vS) := el_lc p vS h hz hw ht he
theorem el_lc2P {as : List α} {bs : α → List T} {st : α → L2.St → L2.St} {st1 : T → L2.St → L2.St} (h : EvW wi g σ H as st) (hz : (as.flatMap bs).length ≤ sizeLine)
    (hw : ∀ a ∈ as, wipe (st a (wipe σ vs)) vs = wipe σ vs) (h1 : ∀ a ∈ as, ∀ H1, Ex H H1 → EvW wi1 g1 (st a (wipe σ vs)) H1 (bs a) st1)
    (hw1 : ∀ a ∈ as, ∀ b ∈ bs a, wipe (st1 b (wipe (st a (wipe σ vs)) vs1)) vs1 = wipe (st a (wipe σ vs)) vs1)
    (he : ∀ a ∈ as, ∀ b ∈ bs a, ∀ H1, Ex H H1 → Ev te (st1 b (wipe (st a (wipe σ vs)) vs1)) H1 (vS b)) :
    EvL (tLc2 wi g tYes wi1 g1 tYes te vs vs1) σ H ((as.flatMap bs).map vS) := by
  have r := el_lc2TY (fun _ p => p) h hz hw h1 hw1 he
  have e0 : (fun a => List.map (fun p => p) (bs a)) = bs := by
    funext x
    rw [List.map_id']
  rw [e0] at r
  exact r
end
theorem bl_emp {α : Type} {l : List α} : (!l.isEmpty) = true ↔ l ≠ [] := by cases l <;> simp
section
variable {P : Program} {w : World} {K : PySem.W.Frag} {mg : Str → Option Value} {base : Heap} {W : Addr}
def spRing (K : PySem.W.Frag) (W : Addr) : Sp := fun vs H Q _ => ∃ (a t : Addr) (L : T) (C : List T), vs = [.ref a] ∧ WebAt K W H a t L C ∧ L.length ≤ 9 ∧ L.Nodup ∧ RetV (vO (ringOf L C)) H Q
theorem cal_chordless_ring (wk : WK K W) (g : Top K mg W) (F : DefX K mg "chordless_ring" schordless_ring ["web"]) (c_require_web : Cal P w K mg base 1 "require_web" (spReq K W)) (c_bare_paths : Cal P w K mg base 2 "bare_paths" (spBare K W)) (c_rings_by : Cal P w K mg base 2 "rings_by" (spRings K W)) :
    Cal P w K mg base 3 "chordless_ring" (spRing K W) :=
  cal_of (k := 2) F cschordless_ring (fun vs H Q E h => by obtain ⟨a, t, L, C, rfl, _⟩ := h; rfl) fun f cdv A outer s H vs Q E hr h => by
    obtain ⟨a, t, L, C, rfl, hw, h9, hL, q⟩ := h
    refine ⟨_, (pss_cons (ps_expr (pe_cal c_require_web hr (by decide) (by rfl) (pa_cons (pv 0) pa_nil)))
    (pss_cons (ps_set (i := 1) cschordless_ring.nd rfl (.inl rfl) (pe_callTy (cr_listT rfl) (by rfl) g.b_list bt_list (pa_cons (pe_slK K (pv 0)) pa_nil)))
    (pss_cons (ps_while PassesOwn.never (pt_cmpR (op_neNilK K (by exact hr.units)) (pv 1) (pe_lst pa_nil) (by rfl))
    (pss_cons (ps_set (i := 2) cschordless_ring.nd rfl (.inl rfl) (pe_cal c_bare_paths hr (by decide) (by rfl) (pa_cons (pv 0) (pa_cons (pv 1) pa_nil))))
    (pss_cons (ps_setLc (i := 1) (own := [("path", 4)]) rfl cschordless_ring.nd rfl rfl (sw_true rfl rfl rfl (by kernel_rfl)) (pi_listK K (pv 2)) (blkOk_by (by kernel_rfl)) (fun _ _ _ _ _ => (pg_name (i := 4) cschordless_ring.nd rfl (by first | exact Or.inl rfl | exact Or.inr rfl))) (fun _ _ _ _ _ => (pts_one (pt_val (pe_callB (cr_allK K rfl) (by rfl) g.b_all bt_all (pa_cons (pe_lc (own := [("one", 6)]) rfl cschordless_ring.nd (pi_str (pe_slice sl_str (pv 4) (po_some pe_int) po_none)) (blkOk_by (by kernel_rfl)) (fun _ _ _ _ _ => (pg_name (i := 6) cschordless_ring.nd rfl (by first | exact Or.inl rfl | exact Or.inr rfl))) (fun _ _ _ _ _ => pts_nil) (fun _ _ _ _ _ => (pe_cmpR op_wGt (pv 6) (pe_ix ix_str (pv 4) pe_int (fun _ _ => rfl)) (by rfl)))) pa_nil))))) (fun _ _ _ _ _ => (pv 4)))
    (pss_one (ps_if ((pw_and (pt_cmpR (op_neNilK K (by exact hr.units)) (pv 1) (pe_lst pa_nil) (by rfl)) (pw_and1 (pt_cmpR op_ge (pe_callB cr_wLenT (by rfl) g.b_len bt_len (pa_cons (pe_ix (ix_listK K) (pv 1) pe_int (fun _ _ => rfl)) pa_nil)) (pe_op op_sub (pe_glob (by rfl) g.LEAST_RING g.rLEAST_RING) pe_int) (by rfl))))).pt (pss_cons (ps_setLc2 (i := 3) (own := [("path", 4), ("ring", 5)]) (vs1 := [5]) rfl cschordless_ring.nd rfl rfl (sw_true rfl rfl rfl (by kernel_rfl)) (pi_listK K (pv 1)) (blkOk_by (by kernel_rfl)) (by decide) (fun _ _ _ _ _ => (pg_name (i := 4) cschordless_ring.nd rfl (by first | exact Or.inl rfl | exact Or.inr rfl))) (fun _ _ _ _ _ => pts_nil) (fun _ _ _ _ _ => (pi_listK K (pe_cal c_rings_by hr (by decide) (by rfl) (pa_cons (pv 0) (pa_cons (pv 4) pa_nil))))) (fun _ _ _ _ _ => (pg_name (i := 5) cschordless_ring.nd rfl (by first | exact Or.inl rfl | exact Or.inr rfl))) (fun _ _ _ _ _ => pts_nil) (fun _ _ _ _ _ => (pv 5)))
    (pss_one (ps_if (pt_cmpR (op_neNilK K (by exact hr.units)) (pv 3) (pe_lst pa_nil) (by rfl)) (pss_one (ps_ret (pe_callB (cr_minS rfl) (by rfl) g.b_min bt_min (pa_cons (pv 3) pa_nil)))) pss_nil))) pss_nil)))))
    (pss_one (ps_ret pe_non))))), ?_⟩
    refine q_drop (v := .non) (ev_cal (ea_cons (ev_var rfl) ea_nil) fun H1 e Q q E => ⟨a, t, L, C, rfl, web_ex e hw, q⟩) fun H1 e1 => ?_
    refine q_asgL (xs := L.map v1) (el_listT (ev_letters wk (web_ex e1 hw) (ev_var rfl)) (by omega)) fun r H2 hr2 e2 h2 => ?_
    refine q_while (fun m σ H' => ∃ k r' ts y2 y3 y4 y5 y6, m + k = L.length + 2 ∧ σ = [some (.ref a), some (.ref r'), y2, y3, y4, y5, y6] ∧ Ex H H' ∧ SqL K H' r' (ts.map vS) ∧ Lay L (k + 1) ts ∧ ts.length ≤ dsc L.length (k + 1) ∧ ringLoop L C m ts = ringOf L C) (L.length + 2)
      ⟨0, r, L.map fun c => [c], _, _, _, _, _, rfl, rfl, e1.trans e2, by rw [map_v1] at h2; exact sq_of h2, lay_ones, ones_len, rfl⟩ fun m σ' H' hW => ?_
    obtain ⟨k, r', ts, y2, y3, y4, y5, y6, hm, rfl, e, hs, ly, ln, hring⟩ := hW
    refine ⟨!ts.isEmpty, et_is (et_test (ev_neNilA (ev_var rfl) hs el_nil)) (by rw [isE_map]), fun hb H4 e4 => ?_, fun hb H4 e4 => ?_⟩
    · have hne : ts ≠ [] := bl_emp.mp hb
      have hk := lay_len ly hne
      obtain ⟨m, rfl⟩ : ∃ m', m = m' + 1 := ⟨m - 1, by omega⟩
      have hring2 : (if ringGo L C (ringStep L C ts) = true then some (minL ((ringStep L C ts).flatMap (ringsBy L C))) else ringLoop L C m (ringStep L C ts)) = ringOf L C := by
        rw [← hring]
        show _ = if ts = [] then none else _
        rw [if_neg hne]
      have ly2 := lay_step (C := C) ly
      have ln2 := step_len (C := C) hL ly ln
      refine ⟨fun σ H' => ∃ k r' ts y2 y3 y4 y5 y6, m + k = L.length + 2 ∧ σ = [some (.ref a), some (.ref r'), y2, y3, y4, y5, y6] ∧ Ex H H' ∧ SqL K H' r' (ts.map vS) ∧ Lay L (k + 1) ts ∧ ts.length ≤ dsc L.length (k + 1) ∧ ringLoop L C m ts = ringOf L C, fun σ2 H2 hN => ⟨m, by omega, hN⟩, ?_⟩
      have bl := bare_len (C := C) hL ly ln
      have b4 : (bareOf L C ts).length ≤ 400000 := dsc_400 h9 (by omega) bl
      refine q_asgL (xs := (bareOf L C ts).map vS) (el_cal (ea_cons (ev_var rfl) (ea_cons (ev_var rfl) ea_nil)) fun H5 e5 Q q E => ⟨a, t, r', L, C, ts, rfl, web_ex (e.trans (e4.trans e5)) hw, by omega, ex_l (e4.trans e5) hs, ok_lay h9 ly, lay_ne ly, dsc_400 h9 (by omega) ln, q⟩) fun b H5 hb5 e5 h5 => ?_
      refine q_asgL (xs := (ringStep L C ts).map vS) ?_ fun p H6 hp6 e6 h6 => ?_
      · refine el_lcP (as := bareOf L C ts) leastFirst (ew_name (inj := vS) (ei_listA (ev_var rfl) (sq_of h5))) (Nat.le_trans b4 (by decide)) (fun _ _ => rfl) (fun p hp H7 e7 => ?_) (fun p _ _ H7 _ => ev_var rfl)
        · have pl := lay_bare (C := C) ly p hp
          have hn : p ≠ [] := fun z => by rw [z] at pl; exact absurd pl.2.1 (by simp)
          refine et_B (ev_all (el_lcBY (as := p.drop 1) (fun c => decide (headD p < c)) (ew_name (ei_str (ev_sl (ev_var rfl) (eo_some ev_c) eo_none (by omega) (cut_from p 1)))) (slen (by rw [List.length_drop]; omega)) (fun _ _ => rfl) fun c _ H8 e8 => ?_))
          exact ev_is (ev_op (ev_var rfl) (ev_op (ev_var rfl) ev_c (rv_ix (by omega) (atI_first hn))) (rv_gt (a := [c]) (b := [headD p]))) (by rw [one_lt1])
      · have eH6 : Ex H H6 := ((e.trans e4).trans e5).trans e6
        have nxt : ∀ σ2 H7, Ex H6 H7 → (∃ y3 y4 y5 y6 : Option V, σ2 = [some (V.ref a), some (V.ref p), some (V.ref b), y3, y4, y5, y6]) → ringLoop L C m (ringStep L C ts) = ringOf L C →
            ∃ k r' ts, ∃ y2 y3 y4 y5 y6 : Option V, m + k = L.length + 2 ∧ σ2 = [some (V.ref a), some (V.ref r'), y2, y3, y4, y5, y6] ∧ Ex H H7 ∧ SqL K H7 r' (ts.map vS) ∧ Lay L (k + 1) ts ∧ ts.length ≤ dsc L.length (k + 1) ∧ ringLoop L C m ts = ringOf L C := fun σ2 H7 e7 hσ hg => by
          obtain ⟨z3, z4, z5, z6, rfl⟩ := hσ
          exact ⟨k + 1, p, _, _, _, _, _, _, by omega, rfl, eH6.trans e7, sq_of (e7 p _ h6), ly2, ln2, hg⟩
        refine s_when (b := !(ringStep L C ts).isEmpty && decide (3 ≤ ((ringStep L C ts).headD []).length)) ?_ (fun hb2 H7 e7 => ?_) (fun hb2 H7 e7 => ?_)
        · refine et_and (et_is (et_test (ev_neNilA (ev_var rfl) (sq_of h6) el_nil)) (by rw [isE_map])) fun hb2 => ?_
          obtain ⟨p0, pr, hp0⟩ : ∃ p0 pr, ringStep L C ts = p0 :: pr := by
            cases hx : ringStep L C ts with
            | nil => exact absurd hx (bl_emp.mp hb2)
            | cons a r => exact ⟨a, r, rfl⟩
          have pl := ly2 p0 (by rw [hp0]; exact .head _)
          have hx : atI ((ringStep L C ts).map vS) 0 = some (vS p0) := by rw [hp0]; exact atI_nat (j := 0) rfl
          refine et_is (et_test (ev_op (ev_lenT (z := p0) (ev_op (ev_var rfl) ev_c (rv_ixA (sq_of h6) hx)) (by omega)) (ev_op ev_c ev_c rv_I0) rv_I0)) ?_
          rw [hp0]
          show decide ((4 : Int) - 1 ≤ (p0.length : Int)) = decide (3 ≤ p0.length)
          by_cases h : 3 ≤ p0.length
          · rw [decide_eq_true h, decide_eq_true]; omega
          · rw [decide_eq_false h, decide_eq_false]; omega
        · rw [Bool.and_eq_true] at hb2
          have hk3 : 3 ≤ k + 2 := by
            have := of_decide_eq_true hb2.2
            cases hx : ringStep L C ts with
            | nil => exact absurd hx (bl_emp.mp hb2.1)
            | cons p0 pr =>
              rw [hx] at this
              have pl := ly2 p0 (by rw [hx]; exact .head _)
              rw [← pl.2.1]
              exact this
          have b5 : (ringStep L C ts).length ≤ 400000 := Nat.le_trans (List.length_filter_le _ _) b4
          refine q_asgL (xs := ((ringStep L C ts).flatMap (ringsBy L C)).map vS) ?_ fun rr H8 hr8 e8 h8 => ?_
          · refine el_lc2P (as := ringStep L C ts) (bs := ringsBy L C) (ew_name (inj := vS) (ei_listA (ev_var rfl) (sq_of (e7 p _ h6)))) ?_ (fun _ _ => rfl)
              (fun p1 hp1 H8 e8 => ew_name (inj := vS) (ei_list (el_cal (ea_cons (ev_var rfl) (ea_cons (ev_var rfl) ea_nil)) fun H9 e9 Q q E => ⟨a, t, L, C, p1, rfl, web_ex (eH6.trans (e7.trans (e8.trans e9))) hw, by omega, by rw [(ly2 p1 hp1).2.1]; omega, by rw [(ly2 p1 hp1).2.1]; omega, (ly2 p1 hp1).2.2, q⟩))) (fun _ _ _ _ => rfl) (fun p1 _ p2 _ H8 _ => ev_var rfl)
            · exact Nat.le_trans (flat_len2 b5 fun _ _ => Nat.le_trans ringsBy_len h9) (by decide)
          · refine s_when (et_test (ev_neNilA (ev_var rfl) (sq_of h8) el_nil)) (fun hb3 H9 e9 => ?_) (fun hb3 H9 e9 => ?_)
            · rw [isE_map] at hb3
              rw [if_pos (by unfold ringGo; rw [Bool.and_eq_true, Bool.and_eq_true]; exact ⟨hb2.1, hb2.2, hb3⟩)] at hring2
              refine s_ret (v := vS (minL ((ringStep L C ts).flatMap (ringsBy L C)))) (ev_minL (ev_var rfl) (sq_of (e9 rr _ h8)) (bl_emp.mp hb3)) fun Ha ea => ?_
              rw [← hring2] at q
              exact q Ha (eH6.trans ((e7.trans e8).trans (e9.trans ea)))
            · rw [isE_map] at hb3
              rw [if_neg (by unfold ringGo; rw [Bool.and_eq_true, Bool.and_eq_true, hb3]; exact fun z => Bool.noConfusion z.2.2)] at hring2
              exact nxt _ H9 ((e7.trans e8).trans e9) ⟨_, _, _, _, rfl⟩ hring2
        · rw [if_neg (by
            unfold ringGo
            rw [← Bool.and_assoc, hb2]
            exact Bool.noConfusion)] at hring2
          exact nxt _ H7 e7 ⟨_, _, _, _, rfl⟩ hring2
    · have hn : ts = [] := by
        cases ts with
        | nil => rfl
        | cons a r => cases hb
      subst hn
      have : ringOf L C = none := by
        rw [← hring]
        cases m with
        | zero => rfl
        | succ m => rfl
      rw [this] at q
      exact s_ret (v := .non) ev_c fun H5 e5 => q H5 (e.trans (e4.trans e5))
end
end WW

/-! the walk: is_elimination, a web's making, its properties -/
namespace WW
open PySem PySem.Spec PyProof.Rows L2 Evl
section
variable {P : Program} {w : World} {K : PySem.W.Frag} {mg : Str → Option Value} {base : Heap} {W : Addr}
/-- is_elimination of a text | of another value -/
def spElimIs (K : PySem.W.Frag) (W : Addr) : Sp := fun vs H Q _ => ∃ (a t : Addr) (L : T) (C : List T) (v : V), vs = [.ref a, v] ∧ WebAt K W H a t L C ∧ L.length ≤ 9 ∧
  ((∃ z : T, v = vS z ∧ z.length < 64 ∧ RetV (.bl (elimIs L C z)) H Q) ∨ (∃ tt, (∀ H1, Ex H H1 → TyX K H1 v tt) ∧ PySem.W.kitOne K tt (.type "str") = some false ∧ RetV (.bl false) H Q))
theorem cal_is_elimination (wk : WK K W) (g : Top K mg W) (F : DefX K mg "is_elimination" sis_elimination ["web", "value"]) (c_require_web : Cal P w K mg base 1 "require_web" (spReq K W)) (c_is_simple : Cal P w K mg base 1 "is_simple" (spSimple K W)) :
    Cal P w K mg base 2 "is_elimination" (spElimIs K W) :=
  cal_of (k := 1) F csis_elimination (fun vs H Q E h => by obtain ⟨a, t, L, C, v, rfl, _⟩ := h; rfl) fun f cdv A outer s H vs Q E hr h => by
    obtain ⟨a, t, L, C, v, rfl, hw, h9, h⟩ := h
    refine ⟨_, (pss_cons (ps_expr (pe_cal c_require_web hr (by decide) (by rfl) (pa_cons (pv 0) pa_nil)))
    (pss_cons (ps_if ((pw_or (pt_not (pt_val (pe_callB (cr_isiK K) (by rfl) g.b_isinstance bt_isinstance (pa_cons (pv 1) (pa_cons (pe_bltn (v := .ty "str") (by rfl) g.b_str bt_str rfl) pa_nil))))) (pw_or1 (pt_cmpR op_ne (pe_m1 PySem.F.slot_str_join PySem.F.type_str_join (mt_joinK K) pe_str (pe_callB (cr_sortT rfl) (by rfl) g.b_sorted bt_sorted (pa_cons (pv 1) pa_nil))) (pe_slK K (pv 0)) (by rfl))))).pt (pss_one (ps_ret pe_bl)) pss_nil)
    (pss_one (ps_ret (pe_callB (cr_allK K rfl) (by rfl) g.b_all bt_all (pa_cons (pe_lc (own := [("at", 2), ("letter", 3)]) rfl csis_elimination.nd (pi_enumS (by rfl) g.b_enumerate (pa_cons (pv 1) pa_nil)) (blkOk_by (by kernel_rfl)) (fun _ _ _ _ _ => (pg_tupK K (n := 2) rfl (pgs_cons (pg_name (i := 2) csis_elimination.nd rfl (by first | exact Or.inl rfl | exact Or.inr rfl)) (pgs_cons (pg_name (i := 3) csis_elimination.nd rfl (by first | exact Or.inl rfl | exact Or.inr rfl)) pgs_nil)))) (fun _ _ _ _ _ => pts_nil) (fun _ _ _ _ _ => (pe_cal c_is_simple hr (by decide) (by rfl) (pa_cons (pv 0) (pa_cons (pv 3) (pa_cons (pe_slice sl_str (pv 1) (po_some (pv 2)) po_none) pa_nil)))))) pa_nil)))))), ?_⟩
    refine q_drop (v := .non) (ev_cal (ea_cons (ev_var rfl) ea_nil) fun H1 e Q q E => ⟨a, t, L, C, rfl, web_ex e hw, q⟩) fun H1 e1 => ?_
    rcases h with ⟨z, rfl, hz, q⟩ | ⟨tt, hty, hk, q⟩
    · refine q_when (b := !decide (isort z = L)) ?_ (fun hb H2 e2 => ?_) (fun hb H2 e2 => ?_)
      · refine et_is (et_or (a := false) (et_is (et_not (et_B (ev_isStr (ev_var rfl) ev_c))) rfl) fun _ => et_test (ev_op (ev_joinC ev_c (ev_sortT (ev_var rfl) hz) (by rw [isort_len]; omega)) (ev_letters wk (web_ex e1 hw) (ev_var rfl)) (rv_neT (a := isort z) (b := L)))) (by rw [Bool.false_or])
      · refine s_ret (v := .bl false) ev_c fun H3 e3 => ?_
        have e : elimIs L C z = false := by
          unfold elimIs
          rw [Bool.not_eq_true'] at hb
          rw [hb, Bool.false_and]
        rw [e] at q
        exact q H3 ((e1.trans e2).trans e3)
      · have hL : isort z = L := by
          have : decide (isort z = L) = true := by
            cases hd : decide (isort z = L) with
            | true => rfl
            | false => rw [hd] at hb; cases hb
          exact of_decide_eq_true this
        have hzl : z.length ≤ 9 := by rw [← isort_len, hL]; exact h9
        have hm : ∀ c ∈ z, c ∈ L := fun c hc => by rw [← hL]; exact (isort_perm z).mem_iff.mpr hc
        refine s_ret (v := .bl (elimIs L C z)) ?_ fun H3 e3 => q H3 ((e1.trans e2).trans e3)
        unfold elimIs
        rw [decide_eq_true hL, Bool.true_and]
        refine ev_all (el_lcBY (as := z.zipIdx) (fun p => simple L C p.1 (z.drop p.2)) (ew_pair (f := fun p => (.int (p.2 : Nat), v1 p.1)) (ei_enumS (ev_var rfl))) (slen (by simp; omega)) (fun _ _ => rfl) fun p hp H3 e3 => ?_)
        refine ev_cal (ea_cons (ev_var rfl) (ea_cons (ev_var rfl) (ea_cons (ev_sl (ev_var rfl) (eo_some (ev_var rfl)) eo_none (by omega) (cut_from z p.2)) ea_nil))) fun H4 e4 Q q E => ⟨a, t, L, C, p.1, z.drop p.2, rfl, web_ex ((e1.trans e2).trans (e3.trans e4)) hw, ?_, fun x hx => hm x (List.mem_of_mem_drop hx), by rw [List.length_drop]; omega, q⟩
        exact hm _ (by
          obtain ⟨x, i⟩ := p
          have := List.mem_zipIdx hp
          obtain ⟨h1, h2, h3⟩ := this
          show x ∈ z
          rw [h3]
          exact List.getElem_mem _)
    · refine q_when (b := true) ?_ (fun hb H2 e2 => ?_) (fun hb => nomatch hb)
      · exact et_or (a := true) (et_is (et_not (et_B (b := false) (ev_cb (ea_cons (ev_var rfl) (ea_cons ev_c ea_nil)) fun H2 e2 Q q => ⟨_, _, _, _, false, rfl, .ty "str", hty H2 (e1.trans e2), hk, q H2 (Ex.refl _)⟩))) rfl) (b := true) fun h => nomatch h
      · exact s_ret (v := .bl false) ev_c fun H3 e3 => q H3 ((e1.trans e2).trans e3)
/-- web.letters | web.conflicts -/
def spLetters (K : PySem.W.Frag) (W : Addr) : Sp := fun vs H Q _ => ∃ (a t : Addr) (L : T) (C : List T), vs = [.ref a] ∧ WebAt K W H a t L C ∧ RetV (vS L) H Q
def spConfl (K : PySem.W.Frag) (W : Addr) : Sp := fun vs H Q _ => ∃ (a t : Addr) (L : T) (C : List T), vs = [.ref a] ∧ WebAt K W H a t L C ∧ RetV (.ref t) H Q
end
end WW

/-! the walk: a web's making, its properties -/
namespace WW
open PySem PySem.Spec PyProof.Rows L2 Evl
section
variable {α β : Type} {K : PySem.W.Frag} {X : Cx} {σ : L2.St} {H H' : Hp} {ta tb te tk tv : TE} {t u : TT} {x y z v : V} {wi wi1 : TI} {g g1 : TG} {j : Nat} {vs vs1 : List Nat}
/-- a new dict -/
def EvD (te : TE) (σ : L2.St) (H : Hp) (kvs : List (Key × V)) : Prop := ∀ H1, Ex H H1 → ∀ Q : VK, (∀ p H2, H1 p = none → Ex H1 H2 → H2 p = some (.dK kvs) → Q (.ref p) H2) → te σ H1 Q
theorem valV_absent {f : Nat → V} {c : Nat} : ∀ {l : T}, c ∉ l → valV (l.map fun c => ((Sum.inr (S [c]) : Key), f c)) (Sum.inr (S [c])) = none
  | [], _ => rfl
  | d :: l, h => by
    rw [List.map_cons, valV_neg (fun e => h (by
      have := SX.S_inj (Sum.inr.inj e)
      have e2 : d = c := (List.cons.inj this).1
      rw [e2]
      exact .head _)), valV_absent fun z => h (.tail _ z)]
theorem ed_dc {as : T} {st : Nat → L2.St → L2.St} (f : Nat → V) (h : EvW wi g σ H as st) (hz : as.length ≤ 1000) (hn : as.Nodup) (hw : ∀ a ∈ as, wipe (st a (wipe σ vs)) vs = wipe σ vs)
    (hk : ∀ a ∈ as, ∀ H1, Ex H H1 → Ev tk (st a (wipe σ vs)) H1 (v1 a)) (he : ∀ a ∈ as, ∀ H1, Ex H H1 → Ev tv (st a (wipe σ vs)) H1 (f a)) :
    EvD (tDc wi g tYes tk tv vs) σ H (as.map fun c => (Sum.inr (S [c]), f c)) := fun H0 e Q q => h H0 e _ fun J H1 e1 ⟨G, Y, w, hG, hY⟩ D hD => by
  refine ⟨fun i m H' => m = as.length - i ∧ i ≤ as.length ∧ Ex H1 H' ∧ H' D = some (.dK ((as.take i).map fun c => (Sum.inr (S [c]), f c))), ⟨as.length, by simp, Nat.zero_le _, Ex.new hD, upd_same⟩, ?_⟩
  rintro i m H2 ⟨rfl, hi, p2, p3⟩
  have gH := hG H2 (Keep.of_ex p2)
  by_cases hlt : i < as.length
  · refine .inr ⟨w.goes i H2 hlt gH, fun H' => Ex H1 H' ∧ H' D = some (.dK ((as.take (i + 1)).map fun c => (Sum.inr (S [c]), f c))), fun H' pp => ⟨as.length - (i + 1), by omega, rfl, hlt, pp⟩, fun x H3 yy => ?_⟩
    have ha : as[i]? = some as[i] := List.getElem?_eq_getElem hlt
    have hm : as[i] ∈ as := List.getElem_mem hlt
    have hfr : as[i] ∉ as.take i := fun z => by
      have hd := List.nodup_append.mp (show (as.take i ++ as.drop i).Nodup by rw [List.take_append_drop]; exact hn)
      have h2 : as[i] ∈ as.drop i := by
        rw [(List.drop_eq_getElem_cons hlt)]
        exact .head _
      exact hd.2.2 _ z _ h2 rfl
    generalize hai : as[i] = a at ha hm hfr
    have et : as.take (i + 1) = as.take i ++ [a] := by rw [List.take_add_one, ha]; rfl
    refine hY i a x H2 H3 ha (w.yields i H2 x H3 hlt gH yy) _ _ fun H4 e4 => ⟨hw _ hm, ?_⟩
    have e5 : Ex H H4 := (e.trans e1).trans (p2.trans e4)
    show tk _ H4 _
    refine hk a hm H4 e5 H4 (Ex.refl _) _ fun H5 e6 => he a hm H5 (e5.trans e6) H5 (Ex.refl _) _ fun H6 e7 => ⟨_, Sum.inr (S [a]), rfl, (e4.trans (e6.trans e7)) D _ p3, ?_, Ex.mut ((p2.trans e4).trans (e6.trans e7)) hD, ?_⟩
    · rw [List.length_map, List.length_take]
      have : sizeLine = 16777216 := rfl
      omega
    · rw [upd_same, putK_new _ (valV_absent hfr), et, List.map_append]
      rfl
  · have ei : i = as.length := by omega
    subst ei
    rw [List.take_length] at p3
    exact .inl ⟨w.stops H2 gH, q D H2 (fresh_back e1 hD) (e1.trans p2) p3⟩
theorem s_slD {D : Ends} {kvs : List (Key × V)} {f : Str} (h : EvD tv σ H kvs) (k : ∀ d H1, H d = none → Ex H H1 → H1 d = some (.dK kvs) → SlX.sSl K ta (tC (.ref d)) f D σ H1) : SlX.sSl K ta tv f D σ H :=
  h H (Ex.refl _) _ fun d H1 hd e h1 => k d H1 hd e h1
end
section
variable {P : Program} {w : World} {K : PySem.W.Frag} {mg : Str → Option Value} {base : Heap} {W : Addr}
/-- the letters and conflicts of a web that may be made -/
structure Good (L : T) (C : List T) : Prop where
  le : L.length ≤ 9
  asc : areLet L = true
  conf : areConf L C = true
  nd : L.Nodup
  cl : C.length ≤ 1000
/-- all but x and dx stands -/
def ExX (x dx : Addr) (H H' : Hp) : Prop := ∀ b o, b ≠ x → b ≠ dx → H b = some o → H' b = some o
def spInit (K : PySem.W.Frag) (W : Addr) : Sp := fun vs H Q _ => ∃ (x dx t : Addr) (L : T) (C : List T), vs = [.ref x, vS L, .ref t] ∧ dx ≠ x ∧ H x = some (.ins W dx []) ∧ H dx = some (.own x) ∧ SqT K H t (C.map vS) ∧ Good L C ∧
  ∀ H', ExX x dx H H' → WebAt K W H' x t L C → Q .non H'
theorem slH_ex {H H' : Hp} {x dx : Addr} {vs : List (Option V)} (e : ExX x dx H H') : ExX x dx H (SlX.slH H' x W dx vs) := fun b o h1 h2 h => by
  unfold SlX.slH
  rw [upd_ne h1, upd_ne h2]
  exact e b o h1 h2 h
theorem st_exx {H H' : Hp} {t x dx : Addr} {xs : List V} (h : SqT K H t xs) (hx : H x = some (.ins W dx [])) (hd : H dx = some (.own x)) (e : ExX x dx H H') : SqT K H' t xs := by
  rcases h with ((h | ⟨o, h⟩) | h)
  · exact .inl (.inl (e t _ (fun z => by rw [z, hx] at h; cases h) (fun z => by rw [z, hd] at h; cases h) h))
  · exact .inl (.inr ⟨o, e t _ (fun z => by rw [z, hx] at h; cases h) (fun z => by rw [z, hd] at h; cases h) h⟩)
  · exact .inr h
theorem ok_init {f : Addr} {fd : FuncData} {dvs : List V} {kws : List (Str × V)} (wk : WK K W) (g : Top K mg W) (F : FunD K "__init__" "Web.__init__" (defArgs sWeb___init__) (defBody sWeb___init__) (defScope sWeb___init__) dvs kws f fd) (c_are_letters : Cal P w K mg base 2 "are_letters" spAreLet)
    (c_are_conflicts : Cal P w K mg base 2 "are_conflicts" (spAreConf K)) (c_close_row : Cal P w K mg base 2 "close_row" (spCloseRow K)) : FnOk P w K mg base L2.CX0 3 f fd ["self", "letters", "conflicts"] (spInit K W) :=
  F.ok (k := 2) csWeb___init__ (fun vs H Q E h => by obtain ⟨x, dx, t, L, C, rfl, _⟩ := h; rfl) fun cdv A outer s H vs Q E hr h => by
    obtain ⟨x, dx, t, L, C, rfl, hd, hx, hdx, ht, gd, q⟩ := h
    have h9 := gd.le
    have hcl := gd.cl
    obtain ⟨p0, hp0⟩ := wk.s0
    obtain ⟨p1, hp1⟩ := wk.s1
    obtain ⟨p2, hp2⟩ := wk.s2
    refine ⟨_, (pss_cons (ps_if ((pw_or (pt_not (pt_val (pe_cal c_are_letters hr (by decide) (by rfl) (pa_cons (pv 1) pa_nil)))) (pw_or1 (pt_cmpR op_gt (pe_callB cr_wLenT (by rfl) g.b_len bt_len (pa_cons (pv 1) pa_nil)) (pe_glob (by rfl) g.MAX_LETTERS g.rMAX_LETTERS) (by rfl))))).pt pss_never pss_nil)
    (pss_cons (ps_if (pt_not (pt_val (pe_cal c_are_conflicts hr (by decide) (by rfl) (pa_cons (pv 1) (pa_cons (pv 2) pa_nil))))) pss_never pss_nil)
    (pss_cons (SlX.ps_sl (pv 0) (pv 1))
    (pss_cons (SlX.ps_sl (pv 0) (pv 2))
    (pss_one (SlX.ps_sl (pv 0) (pe_dc (own := [("letter", 3)]) rfl csWeb___init__.nd (pi_str (pv 1)) (blkOk_by (by kernel_rfl)) (fun _ _ _ _ _ => (pg_name (i := 3) csWeb___init__.nd rfl (by first | exact Or.inl rfl | exact Or.inr rfl))) (fun _ _ _ _ _ => pts_nil) (fun _ _ _ _ _ => (pv 3)) (fun _ _ _ _ _ => (pe_cal c_close_row hr (by decide) (by rfl) (pa_cons (pv 1) (pa_cons (pv 2) (pa_cons (pv 3) pa_nil)))))))))))), ?_⟩
    refine q_when (b := false) ?_ (fun hb => nomatch hb) fun _ H1 e1 => ?_
    · refine et_or (a := false) (b := false) (et_is (et_not (et_B (ev_cal (ea_cons (ev_var rfl) ea_nil) fun H2 e2 Q q E => ⟨L, rfl, by omega, q⟩))) (by rw [gd.asc]; rfl)) fun _ => et_is (et_test (ev_op (ev_lenT (ev_var rfl) (by omega)) ev_c rv_I0)) (by
        rw [decide_eq_false]
        omega)
    refine q_when (b := false) ?_ (fun hb => nomatch hb) fun _ H2 e2 => ?_
    · exact et_is (et_not (et_B (ev_cal (ea_cons (ev_var rfl) (ea_cons (ev_var rfl) ea_nil)) fun H2 e2 Q q E => ⟨t, L, C, rfl, ex_t (e1.trans e2) ht, by omega, hcl, q⟩))) (by rw [gd.conf]; rfl)
    have ex2 : ExX x dx H H2 := fun b o _ _ h => (e1.trans e2) b o h
    refine ⟨vS L, rfl, .ref x, rfl, x, W, dx, p2, [], 2, rfl, .inl ⟨(e1.trans e2) x _ hx, rfl⟩, wk.sc, hp2, ?_⟩
    have ex3 := slH_ex (W := W) (vs := SlX.putS 2 (vS L) []) ex2
    have sl3 := SlX.slH_slt (H := H2) (a := x) (C := W) (vs := SlX.putS 2 (vS L) []) hd
    generalize SlX.slH H2 x W dx (SlX.putS 2 (vS L) []) = H3 at ex3 sl3 ⊢
    refine ⟨.ref t, rfl, .ref x, rfl, x, W, dx, p1, _, 1, rfl, sl3, wk.sc, hp1, ?_⟩
    have ex4 := slH_ex (W := W) (vs := SlX.putS 1 (.ref t) (SlX.putS 2 (vS L) [])) ex3
    have sl4 := SlX.slH_slt (H := H3) (a := x) (C := W) (vs := SlX.putS 1 (.ref t) (SlX.putS 2 (vS L) [])) hd
    generalize SlX.slH H3 x W dx (SlX.putS 1 (.ref t) (SlX.putS 2 (vS L) [])) = H4 at ex4 sl4 ⊢
    have ht4 := st_exx ht hx hdx ex4
    refine s_slD (ed_dc (as := L) (fun c => vS (row L C c)) (ew_name (ei_str (ev_var rfl))) (by omega) gd.nd (fun _ _ => rfl) (fun c _ H5 e5 => ev_var rfl) (fun c _ H5 e5 => ev_cal (ea_cons (ev_var rfl) (ea_cons (ev_var rfl) (ea_cons (ev_var rfl) ea_nil))) fun H6 e6 Q q E => ⟨t, L, C, c, rfl, ex_t (e5.trans e6) ht4, by omega, q⟩)) fun d H5 hdn e5 h5 => ?_
    refine ⟨.ref x, rfl, x, W, dx, p0, _, 0, rfl, slt_ex e5 sl4, wk.sc, hp0, ?_⟩
    have ex5 : ExX x dx H H5 := fun b o h1 h2 h => e5 b o (ex4 b o h1 h2 h)
    have ex6 := slH_ex (W := W) (vs := SlX.putS 0 (.ref d) (SlX.putS 1 (.ref t) (SlX.putS 2 (vS L) []))) ex5
    have sl6 := SlX.slH_slt (H := H5) (a := x) (C := W) (vs := SlX.putS 0 (.ref d) (SlX.putS 1 (.ref t) (SlX.putS 2 (vS L) []))) hd
    refine q _ ex6 ⟨dx, d, sl6, st_exx ht hx hdx ex6, ?_⟩
    unfold SlX.slH
    have n1 : d ≠ x := fun z => by
      rcases sl4 with ⟨s1, _⟩ | ⟨s1, _⟩ <;> (rw [z, s1] at hdn; cases hdn)
    have n2 : d ≠ dx := fun z => by
      rcases sl4 with ⟨_, s1⟩ | ⟨_, s1⟩
      · exact absurd s1 (by simp [SlX.putS])
      · rw [z, s1] at hdn; cases hdn
    rw [upd_ne n1, upd_ne n2]
    exact h5
theorem ok_letters {f : Addr} {fd : FuncData} (wk : WK K W) (F : L2.Fun K "letters" "Web.letters" sWeb_letters f fd) : FnOk P w K mg base L2.CX0 1 f fd ["self"] (spLetters K W) :=
  F.ok (k := 0) csWeb_letters (fun vs H Q E h => by obtain ⟨a, t, L, C, rfl, _⟩ := h; rfl) fun cdv A outer s H vs Q E hr h => by
    obtain ⟨a, t, L, C, rfl, hw, q⟩ := h
    refine ⟨_, (pss_one (ps_ret (pe_slK K (pv 0)))), ?_⟩
    exact s_ret (v := vS L) (ev_letters wk hw (ev_var rfl)) q
theorem ok_conflicts {f : Addr} {fd : FuncData} (wk : WK K W) (F : L2.Fun K "conflicts" "Web.conflicts" sWeb_conflicts f fd) : FnOk P w K mg base L2.CX0 1 f fd ["self"] (spConfl K W) :=
  F.ok (k := 0) csWeb_conflicts (fun vs H Q E h => by obtain ⟨a, t, L, C, rfl, _⟩ := h; rfl) fun cdv A outer s H vs Q E hr h => by
    obtain ⟨a, t, L, C, rfl, hw, q⟩ := h
    refine ⟨_, (pss_one (ps_ret (pe_slK K (pv 0)))), ?_⟩
    exact s_ret (v := .ref t) (ev_conflicts wk hw (ev_var rfl)) q
end
end WW

/-! a comprehension over a text whose items' tokens are known (for replace) -/
namespace WW
open PySem PySem.Spec PyProof.Rows L2 Evl
section
variable {s : Shared} {X : Cx} {pins : List (Addr × Obj)} {σ : L2.St} {H : Hp}
/-- a local is stored: its raw value is known -/
theorem store_raw {M : Model} {A : Around} {E : Value → Shared → Prop} {i : Nat} {x : Str} {v : V} {u : Value} {Q : Unit → Shared → Prop} (I : Inv X pins σ H s) (hN : X.N.Nodup) (hi : X.N[i]? = some x) (hk : X.env.scope.names.lookup x = some .local) (r : RelV v u)
    (h : ∀ h' m, h'.Ns X.env.locals m → m x = some u → Heap.SameBut X.env.locals s.heap h' → Inv X pins (σ.set i (some v)) H { s with heap := h', toks := s.toks + 1 } → Q () { s with heap := h', toks := s.toks + 1 }) : wpAny M A (storeName X.env x u) Q E s := by
  have ⟨m0, n0, look0⟩ := I.loc
  have inσ : i < σ.length := I.len ▸ (List.getElem?_eq_some_iff.1 hi).1
  have plainScope : (X.env.scope.kind == .class || (X.env.scope.kind == .module && X.env.locals != X.env.globals)) = false := by
    rw [I.ok.kind]
    rfl
  refine wpAny_storeName_local hk n0 (fun h' n1 same => ?_) plainScope
  -- what stood before the locals stands as it did
  have old : ∀ {b : Addr} {o : Obj}, X.s_0.heap.get? b = some o → h'.get? b = s.heap.get? b := fun {b o} e => same.2 b fun z => by
    have h1 := Heap.lt_size e
    rw [z] at h1
    exact Nat.lt_irrefl _ (Nat.lt_of_lt_of_le h1 I.ok.above)
  have tracked : HOk X.prog X.w H h' := fun b ob e => (I.hok b ob e).stay (fun c w' hc q => (same.2 c fun z => by
    rw [z] at hc
    rcases hc with rfl | hc
    · exact nomatch (I.free.symm.trans e)
    · exact nomatch (I.free.symm.trans hc)).trans q) (fun _ q => q) fun _ _ q => q
  have un : Un X.fs X.ex X.H_0 H X.s_0.heap h' := ⟨fun b o e n hb hx => (old e).trans (I.base.keep b o e n hb hx), fun b o e n hb hx => (I.base.slot b o e n hb hx).imp fun _ z => (old e).trans z, I.base.free, fun b o e hx => (I.base.there b o e hx).imp fun _ z => (old e).trans z, I.base.tups, I.base.frzs, I.base.tbls⟩
  refine h h' _ n1 (by simp) same ⟨I.ok, I.os, I.bare, un, ⟨_, n1, fun j y v' hj hv vis => ?_⟩, fun y c e => (I.cell y c e).imp fun _ z => z.sameBut same (I.cne y c e), I.free, I.freeC, fun p hp => ?_, tracked, by simpa using I.len⟩
  · by_cases ij : j = i
    · cases ij
      cases hi.symm.trans hj
      cases (List.getElem?_set_self inσ).symm.trans hv
      exact ⟨u, r, Or.inl ⟨hk, if_pos rfl⟩⟩
    · have hxy : y ≠ x := fun z => ij (nodup_ix hN hj (z ▸ hi))
      obtain ⟨u', r', look⟩ := look0 j y v' hj ((List.getElem?_set_ne fun z => ij z.symm).symm.trans hv) vis
      refine ⟨u', r', look.imp (fun k => ⟨k.1, ?_⟩) fun ⟨k, c, e, z⟩ => ⟨k, c, e, z.sameBut same (I.cne y c e)⟩⟩
      simp [hxy, k.2]
  · have k := I.pin p hp
    exact ⟨(same.2 p.1 k.2.2.1).trans k.1, k.2⟩
/-- three names are read: nothing changes -/
theorem names3 {i1 i2 i3 : Nat} {n1 n2 n3 : Str} {a1 a2 a3 : V} {p1 p2 p3 pos : Pos} {E : Value → Shared → Prop} {Q : List Value → Shared → Prop} (I : Inv X pins σ H s)
    (hN1 : X.N[i1]? = some n1) (hv1 : Vis X.env.scope n1) (hσ1 : σ[i1]? = some (some a1)) (hN2 : X.N[i2]? = some n2) (hv2 : Vis X.env.scope n2) (hσ2 : σ[i2]? = some (some a2)) (hN3 : X.N[i3]? = some n3) (hv3 : Vis X.env.scope n3) (hσ3 : σ[i3]? = some (some a3))
    (d1 : (n1 == ("__debug__" : Str)) = false) (c1 : (n1 == ("__classdict__" : Str)) = false) (d2 : (n2 == ("__debug__" : Str)) = false) (c2 : (n2 == ("__classdict__" : Str)) = false) (d3 : (n3 == ("__debug__" : Str)) = false) (c3 : (n3 == ("__classdict__" : Str)) = false)
    (h : ∀ u1 u2 u3, RelV a1 u1 → RelV a2 u2 → RelV a3 u3 → Q [u1, u2, u3] s) : wpAny (model X.prog X.w) X.A (spliced (backTo pos (starEach [.Name n1 p1, .Name n2 p2, .Name n3 p3] X.env))) Q E s :=
  show wpAny _ _ (spliced ((false, eval (.Name n1 p1) X.env) :: backTo pos ((false, eval (.Name n2 p2) X.env) :: [(false, eval (.Name n3 p3) X.env)]))) _ _ s from
  Calls.spliced_cons (raw_name hN1 hv1 I hσ1 (fun _ r1 => Calls.spliced_cons (raw_name hN2 hv2 I hσ2 (fun _ r2 => Calls.spliced_cons (raw_name hN3 hv3 I hσ3 (fun _ r3 => Calls.spliced_nil (h _ _ _ r1 r2 r3)) d3 c3)) d2 c2)) d1 c1)
/-- f(a, b, c) of three names: the caller's locals stay as they are -/
theorem call3_raw {k j i1 i2 i3 : Nat} {x n1 n2 n3 : Str} {sp : Sp} {a1 a2 a3 : V} {p p1 p2 p3 pos : Pos} {m : Str → Option Value} {Q : VK} (c : Cal X.prog X.w X.K X.mg X.base k x sp) (hr : Room j X.A) (hkj : k ≤ j) (hg : Gl X x) (I : Inv X pins σ H s) (hn : s.heap.Ns X.env.locals m)
    (hN1 : X.N[i1]? = some n1) (hv1 : Vis X.env.scope n1) (hσ1 : σ[i1]? = some (some a1)) (hN2 : X.N[i2]? = some n2) (hv2 : Vis X.env.scope n2) (hσ2 : σ[i2]? = some (some a2)) (hN3 : X.N[i3]? = some n3) (hv3 : Vis X.env.scope n3) (hσ3 : σ[i3]? = some (some a3))
    (hsp : sp [a1, a2, a3] H Q E0) (hdb : (x == ("__debug__" : Str)) = false) (d1 : (n1 == ("__debug__" : Str)) = false) (c1 : (n1 == ("__classdict__" : Str)) = false) (d2 : (n2 == ("__debug__" : Str)) = false) (c2 : (n2 == ("__classdict__" : Str)) = false)
    (d3 : (n3 == ("__debug__" : Str)) = false) (c3 : (n3 == ("__classdict__" : Str)) = false) :
    wpAny (model X.prog X.w) X.A (eval (.Call (.Name x p) [.Name n1 p1, .Name n2 p2, .Name n3 p3] [] pos) X.env) (fun r s' => EP X pins σ Q r s' ∧ s'.heap.Ns X.env.locals m) X.xe s := by
  have ⟨f, fd, ps, _, F, hm, kp, b, .nil⟩ := c.ex
  refine wpAny_Call_Name_kw (ld_glob I hg hm (PySem.W.callWith_K (h₀ := X.base) I.ok.mod.kin kp (names3 I hN1 hv1 hσ1 hN2 hv2 hσ2 hN3 hv3 hσ3 d1 c1 d2 c2 d3 c3 fun u1 u2 u3 r1 r2 r3 => ?_) rfl rfl) hdb)
  have rv : Vals [a1, a2, a3] [u1, u2, u3] := .cons r1 (.cons r2 (.cons r3 .nil))
  have hl : [u1, u2, u3].length = ps.length := rv.length.symm.trans (F.len _ _ _ _ hsp)
  refine ⟨I.kIn, wpAny_call (codeAny_mono (F.run X.A X.stack s H ⟨[u1, u2, u3], []⟩ [u1, u2, u3] [a1, a2, a3] Q E0 (hr.mono hkj) I.env0 (b s [u1, u2, u3] I.kIn hl) rv hsp) fun r s' hq => ?_)⟩
  rcases r with e | fl
  · exact (id hq : False).elim
  cases fl
  all_goals try exact (id hq : False).elim
  refine ⟨I.after hq, ?_⟩
  obtain ⟨v, H', os, bare, un, hok, r, q⟩ := hq
  obtain ⟨o, es, ep, ho, r'⟩ := hn
  exact (un.any ho I.free (by simp)).elim fun _ hL => ⟨_, es, ep, hL, r'⟩
end
/-- the raw items of a list of letters: their tokens were given out -/
inductive RawIts (k : Nat) : List Value → T → Prop where
  | nil : RawIts k [] []
  | cons {its : List Value} {cs : T} {c t : Nat} (h1 : 1 ≤ t) (h2 : t < k) (h : RawIts k its cs) : RawIts k (.str ⟨#[c]⟩ t :: its) (c :: cs)
theorem RawIts.mono {k k' : Nat} (hk : k ≤ k') {its : List Value} {cs : T} (h : RawIts k its cs) : RawIts k' its cs := by
  induction h with
  | nil => exact .nil
  | cons h1 h2 _ ih => exact .cons h1 (Nat.lt_of_lt_of_le h2 hk) ih
theorem RawIts.snoc {k : Nat} {its : List Value} {cs : T} {c t : Nat} (h : RawIts k its cs) (h1 : 1 ≤ t) (h2 : t < k) : RawIts k (its ++ [.str ⟨#[c]⟩ t]) (cs ++ [c]) := by
  induction h with
  | nil => exact .cons h1 h2 .nil
  | cons a b _ ih => exact .cons a b ih
theorem RawIts.vals {k : Nat} {its : List Value} {cs : T} (h : RawIts k its cs) : Vals (cs.map v1) its := by
  induction h with
  | nil => exact .nil
  | cons _ _ _ ih => exact .cons ⟨_, rfl⟩ ih
theorem RawIts.head {k : Nat} {its : List Value} {c : Nat} {r : T} (h : RawIts k its (c :: r)) : ∃ t us, its = .str ⟨#[c]⟩ t :: us ∧ 1 ≤ t ∧ t < k := by
  cases h with
  | cons h1 h2 h => exact ⟨_, _, rfl, h1, h2⟩
def RawL (o : Obj) (cs : T) (k : Nat) : Prop := ∃ its n, o = { cls := .type "list", data := .seq its.toArray n } ∧ RawIts k its cs
end WW

/-! the comprehension itself -/
namespace WW
open PySem PySem.Spec PyProof.Rows L2 Evl
section
variable {prog : Program} {w : World} {A : Around} {E : Value → Shared → Prop} {s : Shared}
theorem pyIter_raw {x : Str} {t : Tok} : wpAny (model prog w) A (pyIter (.str x t)) (fun itv s2 => ∃ (ty : String) (o : Obj), (ty = "str_ascii_iterator" ∨ ty = "str_iterator") ∧ itv = .ref s.heap.objs.size ∧ s2 = { s with heap := s.heap.push o } ∧ s2.heap.IsStrIter s.heap.objs.size ty x t 0) E s := by
  cases ha : x.cps.all (fun c => decide (c < 128))
  · exact wpAny_pyIter_wide ha ⟨"str_iterator", _, .inr rfl, rfl, rfl, ⟨_, Heap.get?_push_size _ rfl, rfl, rfl⟩⟩
  · exact wpAny_pyIter_ascii ha ⟨"str_ascii_iterator", _, .inl rfl, rfl, rfl, ⟨_, Heap.get?_push_size _ rfl, rfl, rfl⟩⟩
theorem next_raw {it : Addr} {x : Str} {t : Tok} {i c : Nat} {ty : String} {Q : Option Value → Shared → Prop} (hty : ty = "str_ascii_iterator" ∨ ty = "str_iterator") (hit : s.heap.IsStrIter it ty x t i) (hx : x.cps[i]? = some c)
    (hQ : ∀ h', h'.IsStrIter it ty x t (i + 1) → Heap.SameBut it s.heap h' → Q (some (.str ⟨#[c]⟩ s.toks)) { s with heap := h', toks := s.toks + 1 }) : wpAny (model prog w) A (pyNext (.ref it)) Q E s := by
  rcases hty with e | e
  · subst e
    exact wpAny_pyNext_ascii_item hit hx hQ
  · subst e
    exact wpAny_pyNext_wide_item hit hx hQ
end
/-! one turn, in a context that keeps the iterator apart -/
section
variable {B : Cx} {σ : L2.St} {H0 : Hp} {it D : Addr} {ty : String} {x : Str} {t : Tok} {k0 : Nat} {fn left one web : Str} {pf p1 p2 p4 p5 p6 pc : Pos} {iL iO iW k j : Nat} {sp : Sp} {aw : V} {l : T}
/-- where the walk of a text stands: the letters gathered so far with their tokens, the list locked -/
structure LcAt (B : Cx) (σ : L2.St) (H0 : Hp) (it D : Addr) (ty : String) (x : Str) (t : Tok) (k0 i : Nat) (cs : T) (s : Shared) : Prop where
  st : s.heap.IsStrIter it ty x t i
  tk : k0 ≤ s.toks
  ga : ∃ H o, Inv B [] σ H s ∧ H it = none ∧ Ex H0 H ∧ H D = some (.frz o (.lst (cs.map v1))) ∧ RawL o cs s.toks
/-- the turn is over: the pins and the block's letter are forgotten -/
theorem LcAt.of {h6 : Heap} {v : Option V} {i : Nat} {cs : T} {s : Shared} {H : Hp} {o : Obj} (I : Inv B ([] ++ pinsAt [it] h6) (σ.set iO v) H s) (st : h6.IsStrIter it ty x t i) (less : ∀ (m : Nat) (u : V), σ[m]? = some (some u) → (σ.set iO v)[m]? = some (some u))
    (ex : Ex H0 H) (hD : H D = some (.frz o (.lst (cs.map v1)))) (raw : RawL o cs s.toks) (tk : k0 ≤ s.toks) : LcAt B σ H0 it D ty x t k0 i cs s := by
  obtain ⟨oi, ei, cd⟩ := st
  have pin := I.pin (it, oi) (List.mem_append_right _ (List.mem_append_right _ (mem_pinsAt (.head _) ei)))
  exact ⟨⟨oi, pin.1, cd⟩, tk, H, o, I.unpinned.weak (List.length_set ..).symm less, pin.2.1, ex, hD, raw⟩
theorem it_apart {H : Hp} {s : Shared} (hx : B.ex = [it]) (hp : B.pn = []) (I : Inv B [] σ H s) (hn : H it = none) : FpOk B [] H it :=
  have m : it ∈ B.ex := hx ▸ .head _
  ⟨hn, (I.ok.exf it m).1, I.ok.exfs it m, .inl m, (I.ok.exf it m).2, fun q hq => by rw [hp] at hq; exact nomatch hq⟩
/-- the letter goes to the list -/
theorem lc_push {pins : List (Addr × Obj)} {τ : L2.St} {tk : Tok} {c : Nat} {cs : T} {H : Hp} {o : Obj} {s : Shared} {E : Value → Shared → Prop} {R : Shared → Prop} (I : Inv B pins τ H s) (nD : H0 D = none) (zD : ∀ o' u, B.H_0 D ≠ some (.frz o' u)) (ex : Ex H0 H)
    (hD : H D = some (.frz o (.lst (cs.map v1)))) (raw : RawL o cs s.toks) (z : cs.length ≤ 1000) (a1 : 1 ≤ tk) (a2 : tk < s.toks)
    (fin : ∀ s' H' o', s'.toks = s.toks → Inv B pins τ H' s' → Ex H0 H' → H' D = some (.frz o' (.lst ((cs ++ [c]).map v1))) → RawL o' (cs ++ [c]) s'.toks → R s') :
    wpAny (model B.prog B.w) B.A (call (.builtin "list.append") [.ref D, .str ⟨#[c]⟩ tk]) (fun _ s' => R s') E s := by
  obtain ⟨its, n, rfl, its_raw⟩ := raw
  have len : its.length = cs.length := by rw [← its_raw.vals.length, List.length_map]
  have line : sizeLine = 16777216 := rfl
  refine append_at (hsz := by rw [List.size_toArray]; omega) (I.hok D _ hD).1 fun h' same at' => ?_
  rw [List.push_toArray] at at'
  have vals : Vals ((cs ++ [c]).map v1) (its ++ [Value.str ⟨#[c]⟩ tk]) := (its_raw.snoc a1 a2).vals
  have J := (I.unlock hD zD).write (x := D) (e := D) (t' := s.toks) (h' := h') (o := .lst ((cs ++ [c]).map v1)) (by rw [upd_same]; trivial) (.inl rfl) (fun b u ne q => (same.2 b ne).trans q) ⟨_, at'⟩ ⟨by rw [List.length_map, List.length_append, List.length_singleton]; omega, _, n + 1, vals, at'⟩
  obtain ⟨o', J'⟩ := J.lock upd_same trivial
  have eo := Option.some.inj (at'.symm.trans (J'.hok D _ upd_same).1)
  exact fin _ _ o' rfl J' (Ex.mut (Ex.mut (Ex.mut ex nD) nD) nD) upd_same ⟨_, n + 1, eo.symm, its_raw.snoc a1 a2⟩
/-- from the letter that the iterator gave to the next turn -/
theorem lc_turn {tk : Tok} {c i : Nat} {cs : T} {H : Hp} {o : Obj} {s : Shared} {E : Value → Shared → Prop} {R : Shared → Prop} {b : Bool} (hx : B.ex = [it]) (hp : B.pn = []) (xe : B.xe = fun _ _ => False) (hN : B.N.Nodup)
    (cal : Cal B.prog B.w B.K B.mg B.base k fn sp) (hr : Room j B.A) (hkj : k ≤ j) (hg : Gl B fn) (hNO : B.N[iO]? = some one) (hO : B.env.scope.names.lookup one = some .local) (hNW : B.N[iW]? = some web) (hW : Vis B.env.scope web) (hNL : B.N[iL]? = some left) (hL : Vis B.env.scope left)
    (σW : (σ.set iO (some (v1 c)))[iW]? = some (some aw)) (σO : (σ.set iO (some (v1 c)))[iO]? = some (some (v1 c))) (σL : (σ.set iO (some (v1 c)))[iL]? = some (some (vS l))) (less : ∀ (m : Nat) (u : V), σ[m]? = some (some u) → (σ.set iO (some (v1 c)))[m]? = some (some u))
    (df : (fn == ("__debug__" : Str)) = false) (d1 : (web == ("__debug__" : Str)) = false) (c1 : (web == ("__classdict__" : Str)) = false) (d2 : (one == ("__debug__" : Str)) = false) (c2 : (one == ("__classdict__" : Str)) = false)
    (d3 : (left == ("__debug__" : Str)) = false) (c3 : (left == ("__classdict__" : Str)) = false)
    (tr : ∀ whole, isTrue (.Call (.Name fn pf) [.Name web p4, .Name one p5, .Name left p6] [] pc) B.env whole = (do let v ← whole; standAt (Expr.pos (.Call (.Name fn pf) [.Name web p4, .Name one p5, .Name left p6] [] pc)); holding [v] (truthy v)))
    (hty : ty = "str_ascii_iterator" ∨ ty = "str_iterator") (nD : H0 D = none) (zD : ∀ o' u, B.H_0 D ≠ some (.frz o' u)) (hsp : ∀ H', Ex H0 H' → ∀ Q : VK, (∀ H'', Ex H' H'' → Q (.bl b) H'') → sp [aw, v1 c, vS l] H' Q E0)
    (I : Inv B [] σ H s) (hn : H it = none) (ex : Ex H0 H) (hD : H D = some (.frz o (.lst (cs.map v1)))) (raw : RawL o cs s.toks) (z : cs.length ≤ 1000) (st : s.heap.IsStrIter it ty x t i) (kk : k0 ≤ s.toks) (a1 : 1 ≤ tk) (a2 : tk < s.toks)
    (next : ∀ s', LcAt B σ H0 it D ty x t k0 i (if b = true then cs ++ [c] else cs) s' → R s') :
    wpAny (model B.prog B.w) B.A (letOwnedTupleGo (.Name one p2) (.ref it) (.str ⟨#[c]⟩ tk)) (fun _ s1 => wpAny (model B.prog B.w) B.A (assign (.Name one p2) B.env (.str ⟨#[c]⟩ tk)) (fun _ s2 =>
      wpAny (model B.prog B.w) B.A (forIn [.Call (.Name fn pf) [.Name web p4, .Name one p5, .Name left p6] [] pc] true fun c r => if r = true then do let ok ← isTrue c B.env (eval c B.env); pure (ForInStep.yield ok) else pure (ForInStep.yield r)) (fun ok s3 =>
        if ok = true then wpAny (model B.prog B.w) B.A (eval (.Name one p1) B.env) (fun v s4 => wpAny (model B.prog B.w) B.A (call (.builtin "list.append") [.ref D, v]) (fun _ s5 => R s5) E s4) E s3 else R s3) E s2) E s1) E s := by
  have ⟨oi, ei, cc, dd⟩ := st
  refine go_of ei cc dd (by rcases hty with rfl | rfl <;> decide) ?_
  have J := I.pinned (fp := [it]) (List.forall_mem_singleton.2 (it_apart hx hp I hn)) (List.forall_mem_singleton.2 (rec_text st))
  refine wpAny_assign_Name (store_raw (v := v1 c) J hN hNO hO ⟨tk, rfl⟩ fun h8 m8 n8 here _ J8 => wpAny_tests_one (isTrue_plain ?_ (tr _)))
  have called := call3_raw (X := B) (p := pf) (p1 := p4) (p2 := p5) (p3 := p6) (pos := pc) (Q := fun v H' => v = .bl b ∧ Ex H H') cal hr hkj hg J8 n8 hNW hW σW hNO (.inl hO) σO hNL hL σL (hsp H ex _ fun _ e => ⟨rfl, e⟩) df d1 c1 d2 c2 d3 c3
  rw [xe] at called
  refine wpAny_mono (wpAny_toks called) (fun v s9 q => ?_) fun _ _ q => q.2.elim
  obtain ⟨later, ⟨_, H9, J9, rv, rfl, ex9⟩, n9⟩ := q
  have later : s.toks + 1 ≤ s9.toks := later
  cases (show v = Value.bool b from rv)
  refine wpAny_truthy_bool ?_
  have raw9 : RawL o cs s9.toks := raw.imp fun _ q => q.imp fun _ q => ⟨q.1, q.2.mono (by omega)⟩
  cases b with
  | false => exact next s9 (LcAt.of J9 st less (ex.trans ex9) (ex9 D _ hD) raw9 (by omega))
  | true =>
    refine wpAny_Name (wpAny_loadName_local J9.ok.kind hO n9 here ?_) d2
    exact lc_push J9 nD zD (ex.trans ex9) (ex9 D _ hD) raw9 z a1 (Nat.lt_of_lt_of_le a2 (Nat.le_of_succ_le later)) fun s' H' o' e J' ex' hD' raw' => next s' (LcAt.of J' st less ex' hD' raw' (by omega))
/-- all turns -/
theorem lc_turns {p : Nat → Bool} {p3 pos : Pos} {scope : Scope} {R : Result → Shared → Prop} {s : Shared} (hc : B.calm = true) (hx : B.ex = [it]) (hp : B.pn = []) (xe : B.xe = fun _ _ => False) (hN : B.N.Nodup)
    (cal : Cal B.prog B.w B.K B.mg B.base k fn sp) (hr : Room j B.A) (hkj : k ≤ j) (hg : Gl B fn) (hNO : B.N[iO]? = some one) (hO : B.env.scope.names.lookup one = some .local) (hNW : B.N[iW]? = some web) (hW : Vis B.env.scope web) (hNL : B.N[iL]? = some left) (hL : Vis B.env.scope left)
    (σW : ∀ v, (σ.set iO v)[iW]? = some (some aw)) (σO : ∀ v, (σ.set iO v)[iO]? = some v) (σL : ∀ v, (σ.set iO v)[iL]? = some (some (vS l))) (less : ∀ (v : Option V) (m : Nat) (u : V), σ[m]? = some (some u) → (σ.set iO v)[m]? = some (some u))
    (df : (fn == ("__debug__" : Str)) = false) (d1 : (web == ("__debug__" : Str)) = false) (c1 : (web == ("__classdict__" : Str)) = false) (d2 : (one == ("__debug__" : Str)) = false) (c2 : (one == ("__classdict__" : Str)) = false)
    (d3 : (left == ("__debug__" : Str)) = false) (c3 : (left == ("__classdict__" : Str)) = false)
    (tr : ∀ whole, isTrue (.Call (.Name fn pf) [.Name web p4, .Name one p5, .Name left p6] [] pc) B.env whole = (do let v ← whole; standAt (Expr.pos (.Call (.Name fn pf) [.Name web p4, .Name one p5, .Name left p6] [] pc)); holding [v] (truthy v)))
    (hty : ty = "str_ascii_iterator" ∨ ty = "str_iterator") (nD : H0 D = none) (zD : ∀ o' u, B.H_0 D ≠ some (.frz o' u)) (hsp : ∀ c ∈ l, ∀ H', Ex H0 H' → ∀ Q : VK, (∀ H'', Ex H' H'' → Q (.bl (p c)) H'') → sp [aw, v1 c, vS l] H' Q E0)
    (hz : l.length ≤ 1000) (k1 : 1 ≤ k0) (L0 : LcAt B σ H0 it D ty (S l) t k0 0 [] s)
    (done : ∀ s' H o, Inv B [] σ H s' → Ex H0 H → H D = some (.frz o (.lst ((l.filter p).map v1))) → RawL o (l.filter p) s'.toks → k0 ≤ s'.toks → R (.ok .next) s') :
    codeAny (model B.prog B.w) B.A (.compLoop (.ListComp (.Name one p1) [⟨.Name one p2, .Name left p3, [.Call (.Name fn pf) [.Name web p4, .Name one p5, .Name left p6] [] pc], 0⟩] scope pos) 0 (.ref it) (.ref D) B.env) R s := by
  refine compLoop_any (fun n s' => ∃ i, i + n = l.length ∧ LcAt B σ H0 it D ty (S l) t k0 i ((l.take i).filter p) s') ?_ l.length ⟨0, Nat.zero_add _, L0⟩
  rintro n s' ⟨i, hi, L⟩
  obtain ⟨H, o, I, hn, ex, hD, raw⟩ := L.ga
  have early := L.tk
  cases n with
  | zero =>
    have end' := (turn_str (P := B.prog) (w := B.w) (K := B.K) (tg := .Name one p2) it (S l) t ty hty).done B rfl rfl rfl hc i [] s' σ H (fun _ _ => False) I (List.forall_mem_singleton.2 (it_apart hx hp I hn)) L.st (show (S l).length ≤ i by rw [S_len]; omega)
    refine wpAny_mono (wpAny_toks end') (fun r s2 q => ?_) fun _ _ q => q.2.elim
    obtain ⟨later, rfl, I2⟩ := q
    rw [List.take_of_length_le (by omega)] at hD raw
    exact done s2 H o I2 ex hD (raw.imp fun _ q => q.imp fun _ q => ⟨q.1, q.2.mono later⟩) (by omega)
  | succ n =>
    have hlt : i < l.length := by omega
    have hci : (S l).cps[i]? = some l[i] := (List.getElem?_toArray ..).trans (List.getElem?_eq_getElem hlt)
    refine next_raw hty L.st hci fun h' st' same => ?_
    have f := it_apart hx hp I hn
    have I' := I.turned (h' := h') (t' := s'.toks + 1) (fun b _ ne e => (same.2 b ne).trans e) f.1 f.2.1 f.2.2.2.1 f.2.2.2.2.1 f.2.2.2.2.2
    have few : ((l.take i).filter p).length ≤ 1000 := Nat.le_trans (List.length_filter_le ..) (by rw [List.length_take]; omega)
    refine lc_turn (b := p l[i]) hx hp xe hN cal hr hkj hg hNO hO hNW hW hNL hL (σW _) (σO _) (σL _) (less _) df d1 c1 d2 c2 d3 c3 tr hty nD zD (hsp _ (List.getElem_mem hlt)) I' hn ex hD (raw.imp fun _ q => q.imp fun _ q => ⟨q.1, q.2.mono (Nat.le_succ _)⟩) few st' (Nat.le_succ_of_le early) (Nat.le_trans k1 early) (Nat.lt_succ_self _) fun s2 L2 => ?_
    refine ⟨n, Nat.lt_succ_self n, i + 1, by omega, ?_⟩
    rw [List.take_succ_eq_append_getElem hlt, List.filter_append]
    have e1 : (if p l[i] = true then (l.take i).filter p ++ [l[i]] else (l.take i).filter p) = (l.take i).filter p ++ [l[i]].filter p := by cases h : p l[i] <;> simp [h]
    exact e1 ▸ L2
end
/-- the block's own names -/
def blkEnv (X : Cx) (s : Shared) (scope : Scope) : Env := compEnvC scope (cellsFrom (s.heap.objs.size + 1) scope.names (cloFrom X.env.cells scope.names [])) s.heap.objs.size X.env
/-- the state in which the block begins -/
def begun (s : Shared) (scope : Scope) : Shared := { s with heap := pushCells (s.heap.push { cls := .type "dict", data := .dict #[] }) scope.names }
theorem begun_keeps {s : Shared} {scope : Scope} {b : Addr} {o : Obj} (e : s.heap.get? b = some o) : (begun s scope).heap.get? b = some o := pushCells_keeps _ _ _ _ (Heap.get?_push_of_some _ e)
/-- the block, from the new list at D and the iterator at it on -/
theorem lc_block {X : Cx} {pins : List (Addr × Obj)} {σ : L2.St} {H H3 : Hp} {s : Shared} {k j iL iO iW k0 : Nat} {it D : Addr} {ty : String} {t : Tok} {fn left one web : Str} {sp : Sp} {aw : V} {l : T} {pf p1 p2 p3 p4 p5 p6 pc pos : Pos} {scope : Scope} {own : List (Str × Nat)} {use : Option (Value → Sem Unit)} {Qf : Value → Shared → Prop} {p : Nat → Bool}
    (hc : X.calm = true) (hN : X.N.Nodup) (I : Inv X pins σ H3 s) (nD : H D = none) (hD : H3 D = some (.lst [])) (ex : Ex H H3) (oD : s.heap.get? D = some (seqObj "list" #[] 0)) (f : FpOk X pins H3 it) (low : it < s.heap.objs.size) (ne : it ≠ D) (st : s.heap.IsStrIter it ty (S l) t 0)
    (hty : ty = "str_ascii_iterator" ∨ ty = "str_iterator") (k1 : 1 ≤ k0) (kk : k0 ≤ s.toks) (cal : Cal X.prog X.w X.K X.mg X.base k fn sp) (hr : Room j X.A) (hkj : k ≤ j) (ok : BlkOk X.N X.env.scope scope own)
    (hNL : X.N[iL]? = some left) (hg : ∀ (s : Shared) (H : Hp) (C : Addr) (cl : List (Str × Addr)) (fp : List Addr), Gl (X.blk s H scope (compEnvC scope cl C X.env) fp) fn)
    (hNW : X.N[iW]? = some web) (hNO : X.N[iO]? = some one) (hO : ∀ cl C, (compEnvC scope cl C X.env).scope.names.lookup one = some .local) (hW : ∀ cl C, Vis (compEnvC scope cl C X.env).scope web) (hL : ∀ cl C, Vis (compEnvC scope cl C X.env).scope left)
    (hw8 : ∀ v, wipe ((wipe σ (own.map (·.2))).set iO v) (own.map (·.2)) = wipe σ (own.map (·.2))) (hσW : ∀ v, ((wipe σ (own.map (·.2))).set iO v)[iW]? = some (some aw)) (hσO : ∀ v, ((wipe σ (own.map (·.2))).set iO v)[iO]? = some v) (hσL2 : ∀ v, ((wipe σ (own.map (·.2))).set iO v)[iL]? = some (some (vS l)))
    (hz : l.length ≤ 1000) (hsp : ∀ c ∈ l, ∀ H', Ex H H' → ∀ Q : VK, (∀ H'', Ex H' H'' → Q (.bl (p c)) H'') → sp [aw, v1 c, vS l] H' Q E0)
    (df : (fn == ("__debug__" : Str)) = false) (d1 : (web == ("__debug__" : Str)) = false) (c1 : (web == ("__classdict__" : Str)) = false) (d2 : (one == ("__debug__" : Str)) = false) (c2 : (one == ("__classdict__" : Str)) = false)
    (d3 : (left == ("__debug__" : Str)) = false) (c3 : (left == ("__classdict__" : Str)) = false)
    (htr : ∀ cl C whole, isTrue (.Call (.Name fn pf) [.Name web p4, .Name one p5, .Name left p6] [] pc) (compEnvC scope cl C X.env) whole = (do let v ← whole; standAt (Expr.pos (.Call (.Name fn pf) [.Name web p4, .Name one p5, .Name left p6] [] pc)); holding [v] (truthy v)))
    (over : ∀ s' m H' o, Inv X pins σ H' s' → Ex H H' → H' D = some (.frz o (.lst ((l.filter p).map v1))) → RawL o (l.filter p) s'.toks → k0 ≤ s'.toks → s'.heap.Ns s.heap.objs.size m → FpOk X pins H' s.heap.objs.size → compPost (model X.prog X.w) X.A X.xe use Qf (.ref D) s.heap.objs.size (.ok .next) s') :
    codeAny (model X.prog X.w) X.A (.compStart (.ListComp (.Name one p1) [⟨.Name one p2, .Name left p3, [.Call (.Name fn pf) [.Name web p4, .Name one p5, .Name left p6] [] pc], 0⟩] scope pos) 0 (.ref it) (.ref D) (blkEnv X s scope)) (compPost (model X.prog X.w) X.A X.xe use Qf (.ref D) s.heap.objs.size) (begun s scope) := by
  have I4 : Inv (X.blk s H3 scope (blkEnv X s scope) [it]) [] (wipe σ (own.map (·.2))) H3 (begun s scope) := block_start I ok hN (List.forall_mem_singleton.2 ⟨f, low⟩)
  obtain ⟨od, I5⟩ := I4.lock hD True.intro
  have eo : od = seqObj "list" #[] 0 := Option.some.inj ((I5.hok D _ upd_same).1.symm.trans (begun_keeps oD))
  have T := turn_str (P := X.prog) (w := X.w) (K := X.K) (tg := .Name one p2) it (S l) t ty hty
  have st4 : (begun s scope).heap.IsStrIter it ty (S l) t 0 := T.keep _ _ _ st fun _ _ _ e => begun_keeps e
  have at0 : LcAt (X.blk s H3 scope (blkEnv X s scope) [it]) (wipe σ (own.map (·.2))) H it D ty (S l) t k0 0 [] (begun s scope) := ⟨st4, kk, _, od, I5, (upd_ne ne).trans f.1, Ex.mut ex nD, upd_same, [], 0, eo, .nil⟩
  have out : ∀ s' H' o, Inv (X.blk s H3 scope (blkEnv X s scope) [it]) [] (wipe σ (own.map (·.2))) H' s' → Ex H H' → H' D = some (.frz o (.lst ((l.filter p).map v1))) → RawL o (l.filter p) s'.toks → k0 ≤ s'.toks → compPost (model X.prog X.w) X.A X.xe use Qf (.ref D) s.heap.objs.size (.ok .next) s' := fun s' H' o I' e' hD' raw tk => by
    obtain ⟨m, names, _⟩ := I'.loc
    exact over s' m H' o (I.call' (ch := [it]) I'.os I'.base I'.hok I'.bare (List.forall_mem_singleton.2 ⟨f.2.2.2.1, f.2.1, f.2.2.2.2.1, f.2.2.2.2.2⟩)) e' hD' raw tk names (I.fpOk (Nat.le_refl _) I'.free)
  have run := lc_turns (B := X.blk s H3 scope (blkEnv X s scope) [it]) (p1 := p1) (p2 := p2) (p3 := p3) (pos := pos) (scope := scope) (R := compPost (model X.prog X.w) X.A X.xe use Qf (.ref D) s.heap.objs.size) hc rfl rfl rfl hN cal hr hkj (hg s H3 _ _ [it]) hNO (hO _ _) hNW (hW _ _) hNL (hL _ _) hσW hσO hσL2
    (fun v m u e => (wipe_some (vs := own.map (·.2)) ((congrArg (·[m]?) (hw8 v)).trans e)).1) df d1 c1 d2 c2 d3 c3 (htr _ _) hty nD (fun o' u q => nomatch hD.symm.trans q) hsp hz k1 at0 out
  exact codeAny_compStart_list run (T.self X.A 0 _ _ _ st4 run)
theorem lc_raw {X : Cx} {pins : List (Addr × Obj)} {σ : L2.St} {H : Hp} {s : Shared} {k j iL iO iW : Nat} {fn left one web : Str} {sp : Sp} {aw : V} {l : T} {pf p1 p2 p3 p4 p5 p6 pc pos pos' : Pos} {scope : Scope} {own : List (Str × Nat)} {use : Option (Value → Sem Unit)} {Qf : Value → Shared → Prop} {p : Nat → Bool}
    (hc : X.calm = true) (hN : X.N.Nodup) (I : Inv X pins σ H s) (h1 : 1 ≤ s.toks) (cal : Cal X.prog X.w X.K X.mg X.base k fn sp) (hr : Room j X.A) (hkj : k ≤ j) (ok : BlkOk X.N X.env.scope scope own)
    (hNL : X.N[iL]? = some left) (hvL : Vis X.env.scope left) (hσL : σ[iL]? = some (some (vS l))) (hg : ∀ (s : Shared) (H : Hp) (C : Addr) (cl : List (Str × Addr)) (fp : List Addr), Gl (X.blk s H scope (compEnvC scope cl C X.env) fp) fn)
    (hNW : X.N[iW]? = some web) (hNO : X.N[iO]? = some one) (hO : ∀ cl C, (compEnvC scope cl C X.env).scope.names.lookup one = some .local) (hW : ∀ cl C, Vis (compEnvC scope cl C X.env).scope web) (hL : ∀ cl C, Vis (compEnvC scope cl C X.env).scope left)
    (hw8 : ∀ v, wipe ((wipe σ (own.map (·.2))).set iO v) (own.map (·.2)) = wipe σ (own.map (·.2))) (hσW : ∀ v, ((wipe σ (own.map (·.2))).set iO v)[iW]? = some (some aw)) (hσO : ∀ v, ((wipe σ (own.map (·.2))).set iO v)[iO]? = some v) (hσL2 : ∀ v, ((wipe σ (own.map (·.2))).set iO v)[iL]? = some (some (vS l)))
    (hz : l.length ≤ 1000) (hsp : ∀ c ∈ l, ∀ H', Ex H H' → ∀ Q : VK, (∀ H'', Ex H' H'' → Q (.bl (p c)) H'') → sp [aw, v1 c, vS l] H' Q E0)
    (df : (fn == ("__debug__" : Str)) = false) (d1 : (web == ("__debug__" : Str)) = false) (c1 : (web == ("__classdict__" : Str)) = false) (d2 : (one == ("__debug__" : Str)) = false) (c2 : (one == ("__classdict__" : Str)) = false)
    (d3 : (left == ("__debug__" : Str)) = false) (c3 : (left == ("__classdict__" : Str)) = false) (hs : ∀ x, foldedSetIterable (.Name left p3) X.env x = pure x)
    (htr : ∀ cl C whole, isTrue (.Call (.Name fn pf) [.Name web p4, .Name one p5, .Name left p6] [] pc) (compEnvC scope cl C X.env) whole = (do let v ← whole; standAt (Expr.pos (.Call (.Name fn pf) [.Name web p4, .Name one p5, .Name left p6] [] pc)); holding [v] (truthy v)))
    (hRR : ∀ D C s' m H' o, Inv X pins σ H' s' → Ex H H' → H D = none → H' D = some (.frz o (.lst ((l.filter p).map v1))) → RawL o (l.filter p) s'.toks → s.toks ≤ s'.toks → s'.heap.Ns C m → FpOk X pins H' C → compPost (model X.prog X.w) X.A X.xe use Qf (.ref D) C (.ok .next) s') :
    wpAny (model X.prog X.w) X.A (comprehension (.ListComp (.Name one p1) [⟨.Name one p2, .Name left p3, [.Call (.Name fn pf) [.Name web p4, .Name one p5, .Name left p6] [] pc], 0⟩] scope pos) scope X.env pos' (newList []) false (eval (.Name left p3) X.env) use) Qf X.xe s := by
  refine wpAny_comprehension_free (use := use) rfl hs (closure_ok fun y hy e => (ok.free y hy e).elim (fun q => I.ok.has _ (.inl q)) fun q => I.ok.has _ (.inr q)) ok.kind (fun y hy e => (ok.uniq y hy).trans (congrArg some e)) (raw_name hNL hvL I hσL (fun u r => ?_) d3 c3)
  obtain ⟨t, rfl⟩ : ∃ t, u = Value.str (S l) t := r
  refine wpAny_mono pyIter_raw (fun _ s2 q => ?_) fun _ _ q => q
  obtain ⟨ty, ob, hty, rfl, rfl, st⟩ := q
  refine wpAny_newObj_type (newEnv_comp ?_) (Nat.zero_le _)
  have sz : (s.heap.push ob).objs.size = s.heap.objs.size + 1 := Heap.size_push ..
  have new : H (s.heap.push ob).objs.size = none := I.hok.fresh (by rw [sz]; exact Nat.le_succ _)
  have ne : s.heap.objs.size ≠ (s.heap.push ob).objs.size := by rw [sz]; exact Nat.ne_of_lt (Nat.lt_succ_self _)
  have I2 := I.kept (h' := s.heap.push ob) (t' := s.toks) fun _ _ e => Heap.get?_push_of_some _ e
  have I3 := I2.laid (o := .lst []) (h' := (s.heap.push ob).push (seqObj "list" #[] 0)) (t' := s.toks) (fun _ _ e => Heap.get?_push_of_some _ e) (Nat.le_refl _) ⟨Nat.zero_le _, [], 0, .nil, Heap.get?_push_size _ rfl⟩
  refine lc_block (H := H) (k0 := s.toks) (t := t) hc hN I3 new upd_same (Ex.new new) (Heap.get?_push_size _ rfl) (I.fpOk (Nat.le_refl _) ((upd_ne ne).trans (I.hok.fresh (Nat.le_refl _)))) ?_ ne ?_ hty h1 (Nat.le_refl _) cal hr hkj ok hNL hg hNW hNO hO hW hL hw8 hσW hσO hσL2 hz hsp df d1 c1 d2 c2 d3 c3 htr
    fun s' m H' o I' e hD raw tk names f => hRR _ _ s' m H' o I' e new hD raw tk names f
  · show s.heap.objs.size < ((s.heap.push ob).push _).objs.size
    rw [Heap.size_push, sz]
    omega
  · exact (turn_str (P := X.prog) (w := X.w) (K := X.K) (tg := .Name one p2) _ (S l) t ty hty).keep _ _ _ st fun _ _ _ e => Heap.get?_push_of_some _ e
end WW

/-! the walk: elimination -/
namespace WW
open PySem PySem.Spec PyProof.Rows L2 Evl
/-- a test behind which a token is out -/
def PTK (X : Cx) (e : Expr) (t : TT) : Prop := ∀ (pins : List (Addr × Obj)) (s : Shared) (σ : L2.St) (H : Hp) (Q : Bool → Hp → Prop), Inv X pins σ H s → t σ H Q →
  wpAny (model X.prog X.w) X.A (isTrue e X.env (eval e X.env)) (fun b s' => 1 ≤ s'.toks ∧ TP X pins σ Q b s') X.xe s
/-- statements that know the raw items of a list -/
def PSsK (X : Cx) (st : List Stmt) (t : T → TS) : Prop := ∀ (pins : List (Addr × Obj)) (s : Shared) (σ : L2.St) (H : Hp) (D : Ends) (o : Obj) (cs : T) (d : Addr), RawL o cs s.toks → H d = some (.frz o (.lst (cs.map v1))) → σ[3]? = some (some (.ref d)) → Inv X pins σ H s → t cs D σ H → wpAny (model X.prog X.w) X.A (execs st X.env) (SP X pins D) X.xe s
section
variable {X : Cx} {a c e : Expr} {body rest : List Stmt} {st : Stmt} {pos cpos : Pos} {ta : TE} {t : TT} {tb ts : TS} {op : CmpOp} {r : R2} {x : Str} {j : Nat}
theorem ptk_cmp (ho : OpR X (compareOp op) r) (ha : PE X a ta) (hm : behindInMarks op (.Constant (.str x) j cpos) = false) : PTK X (.Compare a [op] [.Constant (.str x) j cpos] pos) (tTest (tOp r ta (tC (.str x)))) := by
  intro pins s σ H Q I h
  refine wpAny_isTrue_Compare1 (thn (ha.run pins s σ H _ I h) fun v s1 ⟨y, H1, I1, r1, q1⟩ => Calls.Constant_str ?_) hm
  refine wpAny_mono (wpAny_toks (ho pins { s1 with toks := s1.toks + 1 } σ H1 y (.str x) v (.str x s1.toks) _ (I1.tok _) r1 ⟨_, rfl⟩ q1)) (fun c s3 hq => ?_) fun _ _ z => z.2
  obtain ⟨tk, z, H3, I3, r3, k, e, q3⟩ := hq
  subst e
  cases r3
  have tk : s1.toks + 1 ≤ s3.toks := tk
  exact wpAny_truthy_bool ⟨by omega, H3, I3, q3⟩
end
/-- the state is one of N's -/
def Meets (X : Cx) (pins : List (Addr × Obj)) (N : L2.St → Hp → Prop) (s : Shared) : Prop := ∃ σ H, Inv X pins σ H s ∧ N σ H
theorem Meets.less {X : Cx} {pins : List (Addr × Obj)} {n : Nat} {N : L2.St → Hp → Prop} {W : Nat → L2.St → Hp → Prop} (h : ∀ σ H, N σ H → ∃ m, m < n ∧ W m σ H) {s : Shared} : Meets X pins N s → ∃ m, m < n ∧ Meets X pins (W m) s
  | ⟨σ, H, I, q⟩ => (h σ H q).imp fun _ z => ⟨z.1, σ, H, I, z.2⟩
/-- while, a token out behind its test -/
theorem ps_whileT {X : Cx} {c : Expr} {body : List Stmt} {pos : Pos} {t : TT} {tb : TS} (hp : PassesOwn (model X.prog X.w) X.A X.env X.xe) (hc : PTK X c t) (hb : PSsT X body tb) : PS X (.While c body [] pos) (tWhile t tb) where
  run pins s σ H D I h := by
    have ⟨W, begins, turn⟩ := h
    refine begins.elim fun m0 w0 => wpAny_While (codeAny_whileLoop (fun n => Meets X pins (W n)) (fun n s1 M1 => ?_) m0 ⟨σ, H, I, w0⟩)
    have ⟨σ1, H1, I1, w1⟩ := M1
    refine wpAny_passesOwn hp (wpAny_mono (hc pins s1 σ1 H1 _ I1 (turn n σ1 H1 w1)) (fun b s2 q => ?_) fun _ _ z => z)
    obtain ⟨tk, H2, I2, q⟩ := q
    cases b with
    | false => exact wpAny_execs_nil (show SP X pins D .next s2 from ⟨σ1, H2, I2, q⟩)
    | true =>
      obtain ⟨N, smaller, q⟩ := q
      exact wpAny_passesOwn hp (wpAny_mono (hb pins s2 σ1 H2 _ tk I2 q) (fun f s3 q3 => by cases f <;> first | exact Meets.less smaller q3 | exact q3) fun _ _ z => z)
/-- a statement that keeps the list and its slot -/
def tKeep (ts : TS) (u : T → TS) : T → TS := fun cs D σ H => ∃ d o, H d = some (.frz o (.lst (cs.map v1))) ∧ σ[3]? = some (some (.ref d)) ∧ ts { D with nx := fun σ' H' => H' d = H d ∧ σ'[3]? = σ[3]? ∧ u cs D σ' H' } σ H
section
variable {X : Cx} {rest : List Stmt} {st : Stmt} {ts : TS} {u : T → TS}
theorem pssk_cons (h1 : PS X st ts) (h2 : PSsK X rest u) : PSsK X (st :: rest) (tKeep ts u) := by
  intro pins s σ H D o cs d hR hd hσ I h
  obtain ⟨d', o', hd', hσ', q⟩ := h
  have ed : d' = d := by
    rw [hσ] at hσ'
    exact (V.ref.inj (Option.some.inj (Option.some.inj hσ'))).symm
  subst ed
  refine wpAny_execs_cons (wpAny_mono (PySem.wpAny_toks (h1.run pins s σ H _ I q)) (fun f s1 q => ?_) fun _ _ x => x.2)
  obtain ⟨hk, q⟩ := q
  cases f with
  | next =>
    obtain ⟨σ', H', I', e1, e2, q⟩ := q
    obtain ⟨its, n, eo, hr⟩ := hR
    exact h2 pins s1 σ' H' D o cs d' ⟨its, n, eo, hr.mono hk⟩ (e1.trans hd) (e2.trans hσ) I' q
  | ret v => exact q
  | brk => exact q
  | cont => exact q
end
/-- text.replace(old, new) of any two readings; old and new are two objects -/
theorem run_replace {M : Program} {w : World} {A : Around} {env : Env} {s : Shared} {o a b : Expr} {apos cpos : Pos} {x y z : Str} {t : Tok} {Q E : Value → Shared → Prop} (base : attributeBase o "replace" env (eval o env) = eval o env) (line : (apos.endLine == cpos.line) = true)
    (two : starEach [a, b] env = [(false, eval a env), (false, eval b env)]) (ho : ∀ {Q' : Value → Shared → Prop}, (∀ tx, Q' (.str x tx) s) → wpAny (model M w) A (eval o env) Q' E s)
    (hab : ∀ {Q' : List Value → Shared → Prop}, (∀ u k, u ≠ 0 → t ≠ u → Q' [.str y t, .str z u] { s with toks := k }) → wpAny (model M w) A (spliced [(false, eval a env), (false, eval b env)]) Q' E s)
    (t0 : t ≠ 0) (hyz : (y == z) = false) (hz : x.length + (x.length + 1) * z.length ≤ 16777216) (h : ∀ t' k, Q (.str (Txt.replace x y z) t') { s with toks := k }) : wpAny (model M w) A (eval (.Call (.Attribute o "replace" apos) [a, b] [] cpos) env) Q E s :=
  PySem.Call_method2 base two line (ho fun tx => ⟨_, _, F.plainAttrs_str, F.slot_str_replace, F.type_str_replace, typeIs_str s x tx, nofun, Calls.callWith_builtin rfl (Calls.evalArgs_plain (hab fun _ _ u0 tu => PySem.SC.replace t0 u0 tu hyz hz h))⟩)
/-- one letter struck out of a word -/
theorem strike_S (l : T) (c : Nat) : Txt.replace (S l) ⟨#[c]⟩ ("" : Str) = S (l.filter (· != c)) := by
  have z := replace_strikes (S l) c
  show Txt.replace (S l) ⟨#[c]⟩ ⟨#[]⟩ = ⟨(l.filter (· != c)).toArray⟩
  generalize Txt.replace (S l) ⟨#[c]⟩ ⟨#[]⟩ = y at z
  rw [← (by simpa using z : y.cps.toList = l.filter (· != c))]
section
variable {X : Cx} {K : PySem.W.Frag}
/-- left, found = (left.replace(simple[0], ''), e) -/
def tRepl (K : PySem.W.Frag) (ta : TE) (g : TG) : T → TS := fun cs D σ H => ∃ (l : T) (c : Nat) (r : T), σ[1]? = some (some (vS l)) ∧ cs = c :: r ∧ l.length ≤ 1000 ∧ ta σ H fun y H1 => ∀ p, H1 p = none → g (.ref p) σ (upd H1 p (.tup [vS (l.filter (· != c)), y])) D.nx
theorem pssk_repl {e2 : Expr} {tg : Expr} {ta : TE} {g : TG} {p1 p2 q0 c0 ce apos cpos tpos pos : Pos} {x2 : Nat} {j0 j1 : Nat} (hN1 : X.N[1]? = some ("left" : Str)) (hv1 : Vis X.env.scope "left") (hN3 : X.N[3]? = some ("simple" : Str)) (hv3 : Vis X.env.scope "simple")
    (h2 : PE X e2 ta) (hg : PG X tg g)
    (hst : starEach [.Subscript (.Name "simple" p2) (.Constant (.int 0) j0 c0) q0, .Constant (.str "") j1 ce] X.env = [(false, eval (.Subscript (.Name "simple" p2) (.Constant (.int 0) j0 c0) q0) X.env), (false, eval (.Constant (.str "") j1 ce) X.env)])
    (hst2 : starEach [.Call (.Attribute (.Name "left" p1) "replace" apos) [.Subscript (.Name "simple" p2) (.Constant (.int 0) j0 c0) q0, .Constant (.str "") j1 ce] [] cpos, e2] X.env = (false, eval (.Call (.Attribute (.Name "left" p1) "replace" apos) [.Subscript (.Name "simple" p2) (.Constant (.int 0) j0 c0) q0, .Constant (.str "") j1 ce] [] cpos) X.env) :: [(false, eval e2 X.env)])
    (hbase : attributeBase (.Name "left" p1) "replace" X.env (eval (.Name "left" p1) X.env) = eval (.Name "left" p1) X.env) (hline : (apos.endLine == cpos.line) = true)
    (hs : swapsWithSole [tg] (.Tuple [.Call (.Attribute (.Name "left" p1) "replace" apos) [.Subscript (.Name "simple" p2) (.Constant (.int 0) j0 c0) q0, .Constant (.str "") j1 ce] [] cpos, e2] x2 tpos) pos.line X.env = pure false)
    (hw : swappedStores [tg] (.Tuple [.Call (.Attribute (.Name "left" p1) "replace" apos) [.Subscript (.Name "simple" p2) (.Constant (.int 0) j0 c0) q0, .Constant (.str "") j1 ce] [] cpos, e2] x2 tpos) X.env = pure none)
    (ht : (assignEach [tg] X.env).map (·.2) = [assign tg X.env]) :
    PSsK X [.Assign [tg] (.Tuple [.Call (.Attribute (.Name "left" p1) "replace" apos) [.Subscript (.Name "simple" p2) (.Constant (.int 0) j0 c0) q0, .Constant (.str "") j1 ce] [] cpos, e2] x2 tpos) pos] (tRepl K ta g) := by
  intro pins s σ H D o cs d hR hd hσ I h
  obtain ⟨l, c, r, hl, rfl, hz, q⟩ := h
  obtain ⟨its, n, eo, hr⟩ := hR
  obtain ⟨t, us, rfl, t1, t2⟩ := hr.head
  have items : s.heap.IsList d (Value.str ⟨#[c]⟩ t :: us).toArray := ⟨o, (I.hok d _ hd).1, by rw [eo], n, by rw [eo]⟩
  refine wpAny_execs_cons (wpAny_Assign_stores (wpAny_Tuple_spliced ?_) hs hw)
  rw [hst2]
  show wpAny _ _ (spliced ((false, _) :: backTo _ [(false, eval e2 X.env)])) _ _ s
  refine Calls.spliced_cons (run_replace (t := t) (x := S l) (y := ⟨#[c]⟩) (z := ("" : Str)) hbase hline hst (fun h => raw_name hN1 hv1 I hl (fun v rel => (show ∃ tx, v = Value.str (S l) tx from rel).elim fun tx e => e ▸ h tx) (by decide) (by decide)) (fun h => ?_) (Nat.ne_of_gt t1) (by rfl) ?_ fun t' k => ?_)
  · have first := raw_ix (Q := fun v s' => v = Value.str ⟨#[c]⟩ t ∧ ∃ k, s' = { s with toks := k }) (w := Value.str ⟨#[c]⟩ t) (E := X.xe) (p1 := p2) (cp := c0) (pos := q0) (j := j0) hN3 hv3 I hσ items (k := 0) (Int.le_refl 0) (by decide) rfl (fun k => ⟨rfl, k, rfl⟩) (fun _ _ => rfl) (by decide) (by decide)
    refine Calls.spliced_cons (wpAny_mono (wpAny_toks first) (fun v s' q => ?_) fun _ _ q => q.2)
    obtain ⟨later, rfl, k1, rfl⟩ := q
    have small : t < k1 := Nat.lt_of_lt_of_le t2 later
    exact Calls.spliced_cons (Calls.Constant_str (Calls.spliced_nil (h k1 (k1 + 1) (Nat.ne_of_gt (Nat.lt_of_le_of_lt t1 small |> Nat.lt_of_le_of_lt (Nat.zero_le _))) (Nat.ne_of_lt small))))
  · rw [show ("" : Str).length = 0 from rfl, show (S l).length = l.length from S_len l]
    omega
  · rw [strike_S]
    have I1 : Inv X pins σ H { s with toks := k } := I.tok k
    show wpAny _ _ (spliced ((false, eval e2 X.env) :: backTo _ [])) _ _ _
    refine Calls.spliced_cons (thn (h2.run pins { s with toks := k } σ H _ I1 q) fun u2 s2 ⟨y, H2, I2, r2, q2⟩ => Calls.spliced_nil ⟨by show 2 ≤ sizeLine; decide, ?_⟩)
    have hf : H2 s2.heap.objs.size = none := I2.hok.fresh (Nat.le_refl _)
    have rv : Vals [vS (l.filter (· != c)), y] [Value.str (S (l.filter (· != c))) t', u2] := .cons ⟨_, rfl⟩ (.cons r2 .nil)
    have I3 : Inv X pins σ (upd H2 s2.heap.objs.size (.tup [vS (l.filter (· != c)), y])) { s2 with heap := s2.heap.push { cls := .type "tuple", data := .seq [Value.str (S (l.filter (· != c))) t', u2].toArray } } :=
      I2.laid (t' := s2.toks) (fun b u e => Heap.get?_push_of_some _ e) (Nat.le_refl _) ⟨by show 2 ≤ sizeLine; decide, _, rv, ⟨_, Heap.get?_push_size _ rfl, rfl, _, rfl⟩⟩
    rw [ht]
    exact thn (hg.run pins _ σ _ (.ref s2.heap.objs.size) _ _ I3 rfl (q2 _ hf)) fun _ s4 ⟨σ4, H4, I4, q4⟩ => wpAny_execs_nil ⟨σ4, H4, I4, q4⟩
end
end WW

/-! the walk: elimination, joined -/
namespace WW
open PySem PySem.Spec PyProof.Rows L2 Evl
def tSimple (sp : Sp) (u : T → TS) : TS := fun D σ H => ∃ (aw : V) (l : T) (p : Nat → Bool), σ[0]? = some (some aw) ∧ σ[1]? = some (some (vS l)) ∧ l.length ≤ 1000 ∧
  (∀ c ∈ l, ∀ H', Ex H H' → ∀ Q : VK, (∀ H'', Ex H' H'' → Q (.bl (p c)) H'') → sp [aw, v1 c, vS l] H' Q E0) ∧
  ∀ d o H', H d = none → Ex H H' → H' d = some (.frz o (.lst ((l.filter p).map v1))) → u (l.filter p) D (σ.set 3 (some (.ref d))) H'
theorem wp_same {α : Type} {M : Model} {A : Around} {t t' : Sem α} {Q : α → Shared → Prop} {E : Value → Shared → Prop} {s : Shared} (e : t = t') (h : wpAny M A t' Q E s) : wpAny M A t Q E s := by
  rw [e]
  exact h
/-- a list that a block made gets a local's name; the block's names go -/
theorem name_list {X : Cx} {pins : List (Addr × Obj)} {σ : L2.St} {H : Hp} {s : Shared} {i : Nat} {y : Str} {py : Pos} {L C : Addr} {m : Str → Option Value} {o : Obj} {cs : T} (I : Inv X pins σ H s) (hN : X.N.Nodup) (hi : X.N[i]? = some y) (hy : X.env.scope.names.lookup y = some .local)
    (f : FpOk X pins H C) (names : s.heap.Ns C m) (raw : RawL o cs s.toks) :
    wpAny (model X.prog X.w) X.A (assign (.Name y py) X.env (.ref L)) (fun _ s2 => ∃ m, s2.heap.Ns C m ∧ ∀ h3, Heap.SameBut C s2.heap h3 → Inv X pins (σ.set i (some (.ref L))) H { s2 with heap := h3 } ∧ RawL o cs s2.toks) X.xe s :=
  wpAny_assign_Name (store_raw (v := .ref L) I hN hi hy rfl fun _ _ _ _ same I2 => ⟨m, names.sameBut same f.2.1, fun h3 same3 =>
    ⟨I2.turned (h' := h3) (t' := s.toks + 1) (fun b _ ne e => (same3.2 b ne).trans e) f.1 f.2.1 f.2.2.2.1 f.2.2.2.2.1 f.2.2.2.2.2, raw.imp fun _ q => q.imp fun _ q => ⟨q.1, q.2.mono (Nat.le_succ _)⟩⟩⟩)
theorem psst_simple {X : Cx} {rest : List Stmt} {u : T → TS} {k j : Nat} {sp : Sp} {fn : Str} {pf p1 p2 p3 p4 p5 p6 pc pos py spos : Pos} {scope : Scope} (hc : X.calm = true) (hN : X.N.Nodup) (hNs : X.N = (["web", "left", "found", "simple", "one"] : List Str))
    (cal : Cal X.prog X.w X.K X.mg X.base k fn sp) (hr : Room j X.A) (hkj : k ≤ j) (ok : BlkOk X.N X.env.scope scope [("one", 4)]) (hvL : Vis X.env.scope ("left" : Str))
    (hg : ∀ (s : Shared) (H : Hp) (C : Addr) (cl : List (Str × Addr)) (fp : List Addr), Gl (X.blk s H scope (compEnvC scope cl C X.env) fp) fn)
    (hO : ∀ cl C, (compEnvC scope cl C X.env).scope.names.lookup ("one" : Str) = some .local) (hW : ∀ cl C, Vis (compEnvC scope cl C X.env).scope ("web" : Str)) (hL : ∀ cl C, Vis (compEnvC scope cl C X.env).scope ("left" : Str))
    (df : (fn == ("__debug__" : Str)) = false) (hs : ∀ x, foldedSetIterable (.Name "left" p3) X.env x = pure x)
    (htr : ∀ cl C whole, isTrue (.Call (.Name fn pf) [.Name "web" p4, .Name "one" p5, .Name "left" p6] [] pc) (compEnvC scope cl C X.env) whole = (do let v ← whole; standAt (Expr.pos (.Call (.Name fn pf) [.Name "web" p4, .Name "one" p5, .Name "left" p6] [] pc)); holding [v] (truthy v)))
    (hyl : X.env.scope.names.lookup ("simple" : Str) = some .local)
    (hsw : swapsWith (.ListComp (.Name "one" p1) [⟨.Name "one" p2, .Name "left" p3, [.Call (.Name fn pf) [.Name "web" p4, .Name "one" p5, .Name "left" p6] [] pc], 0⟩] scope pos) (some (.Name "simple" py)) spos.line X.env = pure true) (h2 : PSsK X rest u) :
    PSsT X (.Assign [.Name "simple" py] (.ListComp (.Name "one" p1) [⟨.Name "one" p2, .Name "left" p3, [.Call (.Name fn pf) [.Name "web" p4, .Name "one" p5, .Name "left" p6] [] pc], 0⟩] scope pos) spos :: rest) (tSimple sp u) := by
  intro pins s σ H D h1 I h
  obtain ⟨aw, l, p, h0, hl, hz, hsp, q⟩ := h
  have hlen : σ.length = 5 := by rw [I.len, hNs]; rfl
  obtain ⟨y0, y1, y2, y3, y4, rfl⟩ : ∃ y0 y1 y2 y3 y4, σ = [y0, y1, y2, y3, y4] := by
    match σ, hlen with
    | [a, b, c, d, e], _ => exact ⟨a, b, c, d, e, rfl⟩
  have e0 : y0 = some aw := Option.some.inj h0
  have e1 : y1 = some (vS l) := Option.some.inj hl
  subst e0 e1
  let Found := fun (_ : Value) (s' : Shared) => ∃ d o H', H d = none ∧ Ex H H' ∧ H' d = some (.frz o (.lst ((l.filter p).map v1))) ∧ RawL o (l.filter p) s'.toks ∧ Inv X pins [some aw, some (vS l), y2, some (.ref d), y4] H' s'
  refine wpAny_execs_cons (wp_same (exec_Assign_Name_used _ _ _ _ hsw) (wpAny_bind (wpAny_standAt (wpAny_bind (wpAny_bind (wpAny_mono (lc_raw (p := p) (iL := 1) (iO := 4) (iW := 0) (Qf := Found)
    hc hN I h1 cal hr hkj ok (by rw [hNs]; rfl) hvL rfl hg (by rw [hNs]; rfl) (by rw [hNs]; rfl) hO hW hL (fun _ => rfl) (fun _ => rfl) (fun _ => rfl) (fun _ => rfl) hz hsp df (by decide) (by decide) (by decide) (by decide) (by decide) (by decide) hs htr
    fun L C s' m H' o I' e new hL' raw tk names f => ?_) (fun _ s' found => wpAny_pure (wpAny_pure ?_)) fun _ _ q => q))))))
  · refine wpAny_mono (name_list (i := 3) (L := L) I' hN (by rw [hNs]; rfl) hyl f names raw) (fun _ s2 q => ?_) fun _ _ q => q
    exact q.imp fun _ q => ⟨q.1, fun h3 same => ⟨L, o, H', new, e, hL', (q.2 h3 same).2, (q.2 h3 same).1⟩⟩
  · obtain ⟨d, o, H', new, e, hd, raw, I'⟩ := found
    exact h2 pins s' _ H' D o _ d raw hd rfl I' (q d o H' new e hd)
theorem q_asg2 {K : PySem.W.Frag} {σ : L2.St} {H : Hp} {D : Ends} {tz : TS} {i j : Nat} {ta tb : TE} {x y : V} (ha : Ev ta σ H x) (hb : Ev tb σ H y) (k : ∀ H2, Ex H H2 → tz D ((σ.set i (some x)).set j (some y)) H2) :
    tSeq (tAsg (tTup (tCons ta (tCons tb tNil))) (gTup K 2 (gCons (gName i) (gCons (gName j) gNil)))) tz D σ H := by
  have h := eu_tup (ea_cons ha (ea_cons hb ea_nil)) (by show 2 ≤ 100000; decide)
  show tTup (tCons ta (tCons tb tNil)) σ H fun x H1 => gTup K 2 (gCons (gName i) (gCons (gName j) gNil)) x σ H1 (tz D)
  exact h H (Ex.refl _) _ fun p H2 hp e2 h2 => ⟨p, [x, y], rfl, st_of h2, rfl, x, [y], rfl, y, [], rfl, rfl, k H2 e2⟩
/-! what it computes -/
def elimLoop (L : T) (C : List T) : Nat → T → T → Option T
  | 0, _, _ => none
  | m + 1, l, f => if l = [] then some f else match l.filter fun c => simple L C c l with
    | [] => none
    | c :: _ => elimLoop L C m (l.filter (· != c)) (f ++ [c])
def elimOf (L : T) (C : List T) : Option T := elimLoop L C (L.length + 1) L []
section
variable {P : Program} {w : World} {K : PySem.W.Frag} {mg : Str → Option Value} {base : Heap} {W : Addr}
def spElim (K : PySem.W.Frag) (W : Addr) : Sp := fun vs H Q _ => ∃ (a t : Addr) (L : T) (C : List T), vs = [.ref a] ∧ WebAt K W H a t L C ∧ L.length ≤ 9 ∧ RetV (vO (elimOf L C)) H Q
theorem ev_cast {te : TE} {σ : L2.St} {H : Hp} {v : V} (h : Ev te σ H v) (H1 : Hp) (e : Ex H H1) (Q : VK) (q : ∀ H2, Ex H1 H2 → Q v H2) : te σ H1 Q := h H1 e Q q
theorem cal_elimination (wk : WK K W) (g : Top K mg W) (F : DefX K mg "elimination" selimination ["web"]) (c_require_web : Cal P w K mg base 1 "require_web" (spReq K W)) (c_is_simple : Cal P w K mg base 1 "is_simple" (spSimple K W)) :
    Cal P w K mg base 2 "elimination" (spElim K W) :=
  cal_of (k := 1) F cselimination (fun vs H Q E h => by obtain ⟨a, t, L, C, rfl, _⟩ := h; rfl) fun f cdv A outer s H vs Q E hr h => by
    obtain ⟨a, t, L, C, rfl, hw, h9, q⟩ := h
    refine ⟨_, pss_cons (ps_expr (pe_cal c_require_web hr (by decide) (by rfl) (pa_cons (pv 0) pa_nil)))
      (pss_cons (ps_asg (pe_tup (pa_cons (pe_slK K (pv 0)) (pa_cons pe_str pa_nil))) (pg_tupK K (n := 2) rfl (pgs_cons (pg_name (i := 1) cselimination.nd rfl (.inr rfl)) (pgs_cons (pg_name (i := 2) cselimination.nd rfl (.inl rfl)) pgs_nil))))
      (pss_cons (ps_whileT PassesOwn.never (ptk_cmp op_ne (pv 1) (by rfl))
        (psst_simple rfl cselimination.nd rfl c_is_simple hr (by decide) (blkOk_by (by kernel_rfl)) (.inr (.inl rfl)) (fun _ _ _ _ _ => by rfl) (fun _ _ => rfl) (fun _ _ => by first | exact Or.inl rfl | exact Or.inr (Or.inl rfl) | exact Or.inr (Or.inr rfl)) (fun _ _ => by first | exact Or.inl rfl | exact Or.inr (Or.inl rfl) | exact Or.inr (Or.inr rfl)) (by decide) (by intro _; rfl) (by intro _ _ _; rfl) rfl (sw_true rfl rfl rfl (by kernel_rfl))
          (pssk_cons (ps_if (pt_cmpR (op_eqNilK K (by exact hr.units)) (pv 3) (pe_lst pa_nil) (by rfl)) (pss_one (ps_ret pe_non)) pss_nil)
            (pssk_repl (K := K) rfl (by first | exact Or.inl rfl | exact Or.inr (Or.inl rfl)) rfl (by first | exact Or.inl rfl | exact Or.inr (Or.inl rfl)) (pe_op op_wAdd (pv 2) (pe_ix (ix_listK K) (pv 3) pe_int (fun _ _ => rfl))) (pg_tupK K (n := 2) rfl (pgs_cons (pg_name (i := 1) cselimination.nd rfl (.inr rfl)) (pgs_cons (pg_name (i := 2) cselimination.nd rfl (.inl rfl)) pgs_nil))) (by rfl) (by rfl) (by rfl) (by rfl) (by rfl) (by rfl) (by rfl)))))
      (pss_one (ps_ret (pv 2))))), ?_⟩
    refine q_drop (v := .non) (ev_cal (ea_cons (ev_var rfl) ea_nil) fun H1 e Q q E => ⟨a, t, L, C, rfl, web_ex e hw, q⟩) fun H1 e1 => ?_
    refine q_asg2 (x := vS L) (y := vS []) (ev_letters wk (web_ex e1 hw) (ev_var rfl)) ev_c fun H2 e2 => ?_
    refine q_while (fun m σ H' => ∃ l f y3 y4, σ = [some (.ref a), some (vS l), some (vS f), y3, y4] ∧ Ex H H' ∧ l.length < m ∧ l.length + f.length ≤ 9 ∧ (∀ x ∈ l, x ∈ L) ∧ elimLoop L C m l f = elimOf L C) (L.length + 1)
      ⟨L, [], _, _, rfl, e1.trans e2, by omega, by simpa using h9, fun x h => h, rfl⟩ fun m σ' H' hW => ?_
    obtain ⟨l, fo, y3, y4, rfl, e, hlm, hlf, hsub, hel⟩ := hW
    obtain ⟨m, rfl⟩ : ∃ m', m = m' + 1 := ⟨m - 1, by omega⟩
    refine ⟨!decide (l = []), et_test (ev_op (ev_var rfl) ev_c (rv_neT (a := l) (b := []))), fun hb H4 e4 => ?_, fun hb H4 e4 => ?_⟩
    · have hne : l ≠ [] := by
        intro z
        rw [decide_eq_true z] at hb
        cases hb
      refine ⟨fun σ H' => ∃ l f y3 y4, σ = [some (.ref a), some (vS l), some (vS f), y3, y4] ∧ Ex H H' ∧ l.length < m ∧ l.length + f.length ≤ 9 ∧ (∀ x ∈ l, x ∈ L) ∧ elimLoop L C m l f = elimOf L C, fun σ2 H2 hN => ⟨m, by omega, hN⟩, ?_⟩
      refine ⟨.ref a, l, fun c => simple L C c l, rfl, rfl, by omega, fun c hc H5 e5 Q q => ⟨a, t, L, C, c, l, rfl, web_ex (e.trans (e4.trans e5)) hw, hsub c hc, hsub, by omega, q⟩, fun d o H5 hd e5 h5 => ?_⟩
      have hel2 : (match l.filter fun c => simple L C c l with
        | [] => none
        | c :: _ => elimLoop L C m (l.filter (· != c)) (fo ++ [c])) = elimOf L C := by
        rw [← hel]
        show _ = if l = [] then _ else _
        rw [if_neg hne]
      refine ⟨d, o, h5, rfl, ?_⟩
      have hsq : SqL K H5 d ((l.filter fun c => simple L C c l).map v1) := .inl (.inr ⟨o, h5⟩)
      refine s_when (et_is (et_test (ev_eqNilA (ev_var rfl) hsq el_nil)) (by rw [isE_map])) (fun hb2 H6 e6 => ?_) (fun hb2 H6 e6 => ?_)
      · have hn : (l.filter fun c => simple L C c l) = [] := by simpa using hb2
        rw [hn] at hel2
        rw [← hel2] at q
        exact s_ret (v := .non) ev_c fun H7 e7 => q H7 ((e.trans e4).trans (e5.trans (e6.trans e7)))
      · obtain ⟨c, r, hcr⟩ : ∃ c r, (l.filter fun c => simple L C c l) = c :: r := by
          cases hx : l.filter fun c => simple L C c l with
          | nil => rw [hx] at hb2; cases hb2
          | cons c r => exact ⟨c, r, rfl⟩
        rw [hcr] at hel2 hsq ⊢
        have hcl : c ∈ l := by
          have : c ∈ l.filter fun c => simple L C c l := by rw [hcr]; exact .head _
          exact (List.mem_filter.mp this).1
        refine ⟨(e6 d _ h5).trans h5.symm, rfl, l, c, r, rfl, rfl, by omega, ?_⟩
        refine (ev_op (ev_var rfl) (ev_op (ev_var rfl) ev_c (rv_ixA (ex_l e6 hsq) (atI_nat (j := 0) rfl))) (rv_add (a := fo) (b := [c]) (by simp; omega))) H6 (Ex.refl _) _ fun H7 e7 p hp => ?_
        have hlt : (l.filter (· != c)).length < l.length := by
          have := List.length_filter_lt_length_iff_exists (p := (· != c)) (l := l)
          exact this.mpr ⟨c, hcl, by simp⟩
        refine ⟨p, _, rfl, st_of upd_same, rfl, _, _, rfl, _, _, rfl, rfl, l.filter (· != c), fo ++ [c], _, _, rfl, (e.trans e4).trans (e5.trans ((e6.trans e7).trans (Ex.new hp))), by omega, by rw [List.length_append]; show _ + (_ + 1) ≤ _; omega, fun x hx => hsub x (List.mem_filter.mp hx).1, hel2⟩
    · have hn : l = [] := by
        cases hd : decide (l = []) with
        | true => exact of_decide_eq_true hd
        | false => rw [hd] at hb; cases hb
      subst hn
      have : elimOf L C = some fo := by rw [← hel]; rfl
      rw [this] at q
      exact s_ret (v := vS fo) (ev_var rfl) fun H5 e5 => q H5 (e.trans (e4.trans e5))
end
end WW

/-! the law's walk: dice -/
namespace WW
open PySem PySem.Spec PyProof.Rows L2 Evl
def rInt1 : List V → Hp → VK → Prop := fun xs H Q => (∃ i, xs = [.int i] ∧ Q (.int i) H) ∨ ∃ k, xs = [.bl k] ∧ Q (.int (if k then 1 else 0)) H
def rAbs : List V → Hp → VK → Prop := fun xs H Q => ∃ i : Int, xs = [.int i] ∧ Q (.int (if i < 0 then -i else i)) H
def rMax2I : List V → Hp → VK → Prop := fun xs H Q => ∃ i j : Int, xs = [.int i, .int j] ∧ Q (.int (if j > i then j else i)) H
def rMin2I : List V → Hp → VK → Prop := fun xs H Q => ∃ i j : Int, xs = [.int i, .int j] ∧ Q (.int (if j < i then j else i)) H
theorem cr_int1 {X : Cx} : CallR X (.type "int") rInt1 := call_int1
theorem cr_abs {X : Cx} : CallR X (.builtin "abs") rAbs := call_abs
theorem cr_max2I {X : Cx} (hc : X.calm = true) : CallR X (.builtin "max") rMax2I := call_max2 hc
theorem cr_min2I {X : Cx} (hc : X.calm = true) : CallR X (.builtin "min") rMin2I := call_min2 hc
section
variable {K : PySem.W.Frag} {σ : L2.St} {H H' : Hp} {ta tb te tx to : TE} {t u : TT}
theorem ev_int1 {i : Int} (h : Ev te σ H (.int i)) : Ev (tCB rInt1 (tCons te tNil)) σ H (.int i) := ev_cb (ea_cons h ea_nil) fun H1 _ Q q => .inl ⟨i, rfl, q H1 (Ex.refl _)⟩
theorem ev_intB {b : Bool} (h : Ev te σ H (.bl b)) : Ev (tCB rInt1 (tCons te tNil)) σ H (.int (if b then 1 else 0)) := ev_cb (ea_cons h ea_nil) fun H1 _ Q q => .inr ⟨b, rfl, q H1 (Ex.refl _)⟩
theorem ev_abs {i : Int} (h : Ev te σ H (.int i)) : Ev (tCB rAbs (tCons te tNil)) σ H (.int (if i < 0 then -i else i)) := ev_cb (ea_cons h ea_nil) fun H1 _ Q q => ⟨i, rfl, q H1 (Ex.refl _)⟩
theorem ev_max2I {i j : Int} (h : Ev ta σ H (.int i)) (h2 : Ev tb σ H (.int j)) : Ev (tCB rMax2I (tCons ta (tCons tb tNil))) σ H (.int (if j > i then j else i)) := ev_cb (ea_cons h (ea_cons h2 ea_nil)) fun H1 _ Q q => ⟨i, j, rfl, q H1 (Ex.refl _)⟩
theorem ev_min2I {i j : Int} (h : Ev ta σ H (.int i)) (h2 : Ev tb σ H (.int j)) : Ev (tCB rMin2I (tCons ta (tCons tb tNil))) σ H (.int (if j < i then j else i)) := ev_cb (ea_cons h (ea_cons h2 ea_nil)) fun H1 _ Q q => ⟨i, j, rfl, q H1 (Ex.refl _)⟩
end
/-- three dice -/
def Dice (H : Hp) (l : Addr) : Prop := ∃ a b c : Int, H l = some (.lst [.int a, .int b, .int c])
theorem Dice.ex {H H' : Hp} {l : Addr} (e : Ex H H') (d : Dice H l) : Dice H' l := let ⟨a, b, c, h⟩ := d; ⟨a, b, c, e l _ h⟩
section
variable {P : Program} {w : World} {K : PySem.W.Frag} {mg : Str → Option Value} {base : Heap} {W : Addr}
def spLDice (K : PySem.W.Frag) : Sp := fun vs H Q _ => ∃ (a : Addr) (ns : List Int) (i : Nat), vs = [.ref a, .int (i : Int)] ∧ SqL K H a (ns.map V.int) ∧ i < 1000 ∧ ∀ l H', H l = none → Ex H H' → Dice H' l → Q (.ref l) H'
theorem cal_law_dice (g : Top K mg W) (F : DefX K mg "_law_dice" s_law_dice ["_law_script", "_law_spot"]) : Cal P w K mg base 1 "_law_dice" (spLDice K) :=
  cal_of (k := 0) F cs_law_dice (fun vs H Q E h => by obtain ⟨a, ns, i, rfl, _⟩ := h; rfl) fun f cdv A outer s H vs Q E hr h => by
    obtain ⟨a, ns, i, rfl, hs, hi, q⟩ := h
    refine ⟨_, (pss_cons (ps_set (i := 2) cs_law_dice.nd rfl (.inl rfl) (pe_ifExp (pt_cmpR op_lt (pv 1) (pe_callB (cr_lenK K) (by rfl) g.b_len bt_len (pa_cons (pv 0) pa_nil)) (by rfl)) (pe_callTy cr_int1 (by rfl) g.b_int bt_int (pa_cons (pe_ix (ix_listK K) (pv 0) (pv 1) (fun _ _ => rfl)) pa_nil)) (pe_op op_add (pe_op op_mul pe_int (pv 1)) pe_int)))
    (pss_cons (ps_set (i := 3) cs_law_dice.nd rfl (.inl rfl) (pe_op op_mod (pe_callB (cr_max2I rfl) (by rfl) g.b_max bt_max (pa_cons pe_int (pa_cons (pe_op op_sub (pe_callB cr_abs (by rfl) g.b_abs bt_abs (pa_cons (pv 2) pa_nil)) (pe_op op_pow pe_int pe_int)) pa_nil))) (pe_op op_mulW (pe_op op_pow pe_int pe_int) (pe_op op_pow pe_int pe_int))))
    (pss_one (ps_ret (pe_lst (pa_cons (pv 3) (pa_cons (pe_op op_add (pe_op op_add (pe_op op_add (pe_op op_mul (pe_op op_mod (pe_callB cr_abs (by rfl) g.b_abs bt_abs (pa_cons (pv 2) pa_nil)) pe_int) pe_int) (pe_op op_mul pe_int (pv 1))) (pe_op op_mul pe_int (pe_callTy cr_int1 (by rfl) g.b_int bt_int (pa_cons (pe_cmpR op_lt (pv 2) pe_int (by rfl)) pa_nil)))) pe_int) (pa_cons pe_int pa_nil)))))))), ?_⟩
    refine q_asg (v := .int (if h : i < ns.length then ns[i] else 83 * (i : Int) + 47)) ?_ fun H1 e1 => ?_
    · refine ev_if (b := decide (i < ns.length)) ?_ (fun h => ?_) (fun h => ?_)
      · refine et_is (et_test (ev_op (ev_var rfl) (ev_len (ev_var rfl) hs) rv_I0)) ?_
        rw [List.length_map]
        by_cases h : i < ns.length
        · rw [decide_eq_true h, decide_eq_true]; omega
        · rw [decide_eq_false h, decide_eq_false]; omega
      · have h := of_decide_eq_true h
        rw [dif_pos h]
        exact ev_int1 (ev_op (ev_var rfl) (ev_var rfl) (rv_ixA hs (atI_nat (by rw [List.getElem?_map, List.getElem?_eq_getElem h]; rfl))))
      · have h := of_decide_eq_false h
        rw [dif_neg h]
        exact ev_op (ev_op ev_c (ev_var rfl) (rv_I (.inl ⟨by decide, by decide⟩))) ev_c rv_I0
    · generalize (if h : i < ns.length then ns[i] else 83 * (i : Int) + 47) = cell
      refine q_asg (ev_op (ev_max2I ev_c (ev_op (ev_abs (ev_var rfl)) (ev_op ev_c ev_c (rv_I ⟨by decide, by decide, by decide⟩)) rv_I0)) (ev_op (ev_op ev_c ev_c (rv_I ⟨by decide, by decide, by decide⟩)) (ev_op ev_c ev_c (rv_I ⟨by decide, by decide, by decide⟩)) (rv_I (by unfold CMulW; decide +kernel))) (rv_I (by decide +kernel))) fun H2 e2 => ?_
      refine s_retL (el_lst (ea_cons (ev_var rfl) (ea_cons (ev_op (ev_op (ev_op (ev_op (ev_op (ev_abs (ev_var rfl)) ev_c (rv_I (by decide))) ev_c (rv_I (.inr ⟨by decide, by decide⟩))) (ev_op ev_c (ev_var rfl) (rv_I (.inl ⟨by decide, by decide⟩))) rv_I0) (ev_op ev_c (ev_intB (ev_op (ev_var rfl) ev_c rv_I0)) (rv_I (.inl ⟨by decide, by decide⟩))) rv_I0) ev_c rv_I0) (ea_cons ev_c ea_nil))) (by show 3 ≤ 100000; decide)) fun p H3 hp e3 h3 => q p H3 (fresh_back (e1.trans e2) hp) ((e1.trans e2).trans e3) ⟨_, _, _, h3⟩
def spRoll (H0 : Unit) : Sp := fun vs H Q _ => ∃ (l : Addr) (n : Int), vs = [.ref l, .int n] ∧ 0 < n ∧ n < 1000000 ∧ Dice H l ∧ ∀ (r : Nat) H', (r : Int) < n → ExM l H H' → Dice H' l → Q (.int (r : Int)) H'
theorem cal_law_roll (g : Top K mg W) (F : DefX K mg "_law_roll" s_law_roll ["_law_dice_here", "_law_total"]) : Cal P w K mg base 1 "_law_roll" (spRoll ()) :=
  cal_of (k := 0) F cs_law_roll (fun vs H Q E h => by obtain ⟨a, n, rfl, _⟩ := h; rfl) fun f cdv A outer s H vs Q E hr h => by
    obtain ⟨l, n, rfl, h0, hn, ⟨a, b, c, hl⟩, q⟩ := h
    have fin : ∀ (i : Int) H', ExM l H H' → Dice H' l → Q (.int (i % n)) H' := fun i H' e d => by
      have h1 := Int.emod_nonneg i (show n ≠ 0 by omega)
      have h2 := Int.emod_lt_of_pos i h0
      obtain ⟨k, hk⟩ := Int.eq_ofNat_of_zero_le h1
      have := q k H' (by rw [← hk]; exact h2) e d
      rw [← hk] at this
      exact this
    refine ⟨_, (pss_cons (ps_if (pt_cmpR op_gt (pe_ix (ix_listK K) (pv 0) pe_int (fun _ _ => rfl)) pe_int (by rfl)) (pss_cons (ps_set (i := 4) cs_law_roll.nd rfl (.inl rfl) (pe_op op_mod (pe_callTy cr_int1 (by rfl) g.b_int bt_int (pa_cons (pe_ix (ix_listK K) (pv 0) pe_int (fun _ _ => rfl)) pa_nil)) (pv 1)))
    (pss_cons (ps_asg (pe_op op_fdiv (pe_ix (ix_listK K) (pv 0) pe_int (fun _ _ => rfl)) (pv 1)) (pg_sub (pv 0) pe_int set_list))
    (pss_one (ps_ret (pv 4))))) pss_nil)
    (pss_cons (ps_asg (pe_op op_add (pe_ix (ix_listK K) (pv 0) pe_int (fun _ _ => rfl)) pe_int) (pg_sub (pv 0) pe_int set_list))
    (pss_cons (ps_set (i := 2) cs_law_roll.nd rfl (.inl rfl) (pe_op op_mod (pe_callTy cr_int1 (by rfl) g.b_int bt_int (pa_cons (pe_op op_add (pe_ix (ix_listK K) (pv 0) pe_int (fun _ _ => rfl)) (pe_op op_mul pe_int (pe_ix (ix_listK K) (pv 0) pe_int (fun _ _ => rfl)))) pa_nil)) pe_int))
    (pss_cons (ps_set (i := 3) cs_law_roll.nd rfl (.inl rfl) (pe_op op_add (pe_op op_mul (pe_op op_mod (pe_callTy cr_int1 (by rfl) g.b_int bt_int (pa_cons (pe_op op_add (pe_op op_mul (pv 2) (pv 2)) (pe_op op_mul pe_int (pe_ix (ix_listK K) (pv 0) pe_int (fun _ _ => rfl)))) pa_nil)) pe_int) pe_int) (pv 2)))
    (pss_one (ps_ret (pe_op op_mod (pe_callTy cr_int1 (by rfl) g.b_int bt_int (pa_cons (pe_op op_fdiv (pv 3) pe_int) pa_nil)) (pv 1)))))))), ?_⟩
    refine q_if (et_test (ev_op (ev_op (ev_var rfl) ev_c (rv_ixA (sq_of hl) (atI_nat (j := 0) rfl))) ev_c rv_I0)) (fun hb H1 e1 => ?_) (fun hb H1 e1 => ?_)
    · have h1 := e1 l _ hl
      refine q_asg (ev_op (ev_int1 (ev_op (ev_var rfl) ev_c (rv_ixA (sq_of h1) (atI_nat (j := 0) rfl)))) (ev_var rfl) (rv_I h0)) fun H2 e2 => ?_
      have h2 := e2 l _ h1
      refine q_setL (j := 0) h2 (ev_op (ev_op (ev_var rfl) ev_c (rv_ixA (sq_of h2) (atI_nat (j := 0) rfl))) (ev_var rfl) (rv_I ⟨h0, by omega⟩)) (ev_var rfl) ev_c (by show 0 < 3; decide) fun H3 e3 => ?_
      exact s_ret (ev_var rfl) fun H4 e4 => fin _ H4 (((ExM.of ((e1.trans e2).trans e3)).trans ExM.upd).trans (ExM.of e4)) ⟨_, _, _, e4 l _ upd_same⟩
    · have h1 := e1 l _ hl
      refine q_setL (j := 2) h1 (ev_op (ev_op (ev_var rfl) ev_c (rv_ixA (sq_of h1) (atI_nat (j := 2) rfl))) ev_c rv_I0) (ev_var rfl) ev_c (by show 2 < 3; decide) fun H3 e3 => ?_
      have e4 : ExM l H (upd H3 l (.lst ([V.int a, .int b, .int c].set 2 (.int (c + 1))))) := (ExM.of (e1.trans e3)).trans ExM.upd
      have h4 : (upd H3 l (.lst ([V.int a, .int b, .int c].set 2 (.int (c + 1))))) l = some (.lst [.int a, .int b, .int (c + 1)]) := upd_same
      generalize upd H3 l (.lst ([V.int a, .int b, .int c].set 2 (.int (c + 1)))) = H4 at e4 h4 ⊢
      have hm : ∀ i : Int, 0 ≤ i % 2305843009213693723 ∧ i % 2305843009213693723 < 2305843009213693723 := fun i => ⟨Int.emod_nonneg _ (by decide), Int.emod_lt_of_pos _ (by decide)⟩
      refine q_asg (ev_op (ev_int1 (ev_op (ev_op (ev_var rfl) ev_c (rv_ixA (sq_of h4) (atI_nat (j := 1) rfl))) (ev_op ev_c (ev_op (ev_var rfl) ev_c (rv_ixA (sq_of h4) (atI_nat (j := 2) rfl))) (rv_I (.inl ⟨by decide, by decide⟩))) rv_I0)) ev_c (rv_I (by decide))) fun H5 e5 => ?_
      have h5 := e5 l _ h4
      obtain ⟨m1, m2⟩ := hm (b + 86028121 * (c + 1))
      generalize (b + 86028121 * (c + 1)) % 2305843009213693723 = one at m1 m2 ⊢
      refine q_asg (ev_op (ev_op (ev_op (ev_int1 (ev_op (ev_op (ev_var rfl) (ev_var rfl) (rv_I (.inl ⟨by omega, by omega⟩))) (ev_op ev_c (ev_op (ev_var rfl) ev_c (rv_ixA (sq_of h5) (atI_nat (j := 2) rfl))) (rv_I (.inl ⟨by decide, by decide⟩))) rv_I0)) ev_c (rv_I (by decide))) ev_c (rv_I (.inr ⟨by decide, by decide⟩))) (ev_var rfl) rv_I0) fun H6 e6 => ?_
      exact s_ret (ev_op (ev_int1 (ev_op (ev_var rfl) ev_c (rv_I ⟨by decide, by decide⟩))) (ev_var rfl) (rv_I h0)) fun H7 e7 => fin _ H7 (e4.trans (ExM.of ((e5.trans e6).trans e7))) ⟨_, _, _, ((e5.trans e6).trans e7) l _ h4⟩
end
end WW

/-! the law's walk: mixed, some -/
namespace WW
open PySem PySem.Spec PyProof.Rows L2 Evl
/-- the heap without what stands at l -/
def delA (H : Hp) (l : Addr) : Hp := fun b => if b = l then none else H b
theorem delA_ex {H : Hp} {l : Addr} : Ex (delA H l) H := fun b o h => by
  unfold delA at h
  split at h
  · cases h
  · exact h
theorem delA_self {H : Hp} {l : Addr} : delA H l l = none := by unfold delA; rw [if_pos rfl]
theorem delA_ne {H : Hp} {l b : Addr} (h : b ≠ l) : delA H l b = H b := by unfold delA; rw [if_neg h]
theorem delA_exM {H H' : Hp} {l : Addr} (e : ExM l H H') : Ex (delA H l) H' := fun b o h => by
  unfold delA at h
  split at h
  · cases h
  · rename_i hb
    exact e b o hb h
theorem exM_del {H H' : Hp} {l : Addr} (e : Ex (delA H l) H') : ExM l H H' := fun b o hb h => e b o (by rw [delA_ne hb]; exact h)
theorem sq_del {K : PySem.W.Frag} {H : Hp} {l p : Addr} {xs : List V} (h : SqL K H p xs) (hp : p ≠ l) : SqL K (delA H l) p xs := by
  rcases h with ((h | ⟨o, h⟩) | h)
  · exact .inl (.inl (by rw [delA_ne hp]; exact h))
  · exact .inl (.inr ⟨o, by rw [delA_ne hp]; exact h⟩)
  · exact .inr h
theorem st_del {K : PySem.W.Frag} {H : Hp} {l p : Addr} {xs : List V} (h : SqT K H p xs) (hp : Dice H l) : SqT K (delA H l) p xs := by
  obtain ⟨a, b, c, hl⟩ := hp
  rcases h with ((h | ⟨o, h⟩) | h)
  · exact .inl (.inl (by rw [delA_ne (fun z => by rw [z, hl] at h; cases h)]; exact h))
  · exact .inl (.inr ⟨o, by rw [delA_ne (fun z => by rw [z, hl] at h; cases h)]; exact h⟩)
  · exact .inr h
theorem exM_l {K : PySem.W.Frag} {H H' : Hp} {l p : Addr} {xs : List V} (e : ExM l H H') (hp : p ≠ l) (h : SqL K H p xs) : SqL K H' p xs := ex_l (delA_exM e) (sq_del h hp)
theorem none_exM {H H' : Hp} {l p : Addr} (e : ExM l H H') (hp : p ≠ l) (h : H' p = none) : H p = none := by
  cases h1 : H p with
  | none => rfl
  | some o =>
    rw [e p o hp h1] at h
    cases h
theorem exM_upd {H H' : Hp} {l p : Addr} {o : HO} (e : ExM l H H') (h : H p = none) : ExM l H (upd H' p o) := fun b u hb hu => by
  rw [upd_ne (ne_of_none hu h)]
  exact e b u hb hu
theorem erase_perm {α : Type} {l : List α} {i : Nat} (h : i < l.length) : (l[i] :: l.eraseIdx i).Perm l := by
  rw [List.eraseIdx_eq_take_drop_succ]
  have e : l = l.take i ++ l[i] :: l.drop (i + 1) := by
    rw [← List.drop_eq_getElem_cons h, List.take_append_drop]
  conv => rhs; rw [e]
  exact List.perm_middle.symm
section
variable {P : Program} {w : World} {K : PySem.W.Frag} {mg : Str → Option Value} {base : Heap} {W : Addr}
def spMixed (K : PySem.W.Frag) : Sp := fun vs H Q _ => ∃ (l p : Addr) (xs : List V), vs = [.ref l, .ref p] ∧ Dice H l ∧ p ≠ l ∧ SqL K H p xs ∧ xs.length ≤ 1000 ∧ ∀ (ys : List V) (q : Addr) (H' : Hp), ys.Perm xs → H q = none → ExM l H H' → Dice H' l → H' q = some (.lst ys) → Q (.ref q) H'
theorem cal_law_mixed (g : Top K mg W) (F : DefX K mg "_law_mixed" s_law_mixed ["_law_dice_here", "_law_items"]) (c_law_roll : Cal P w K mg base 1 "_law_roll" (spRoll ())) : Cal P w K mg base 2 "_law_mixed" (spMixed K) :=
  cal_of (k := 1) F cs_law_mixed (fun vs H Q E h => by obtain ⟨a, p, n, rfl, _⟩ := h; rfl) fun f cdv A outer s H vs Q E hr h => by
    obtain ⟨l, p, xs, rfl, hd, hpl, hs, hn, q⟩ := h
    refine ⟨_, (pss_cons (ps_par (i := 3) (j := 4) rfl cs_law_mixed.nd rfl rfl (by decide) rfl rfl (pa_cons (pe_callTy (cr_listK K) (by rfl) g.b_list bt_list (pa_cons (pv 1) pa_nil)) (pa_cons (pe_lst pa_nil) pa_nil)) (by rfl))
    (pss_cons (ps_for PassesOwn.never rfl (pi_range1 (by rfl) g.b_range (pa_cons (pe_callB (cr_lenK K) (by rfl) g.b_len bt_len (pa_cons (pv 1) pa_nil)) pa_nil)) (pg_name (i := 2) cs_law_mixed.nd rfl (.inl rfl))
    (pss_one (ps_expr (pe_bm PySem.F.plainAttrs_list PySem.F.slot_list_append PySem.F.type_list_append mt_append (pv 4) (pa_cons (pe_bm PySem.F.plainAttrs_list PySem.F.slot_list_pop PySem.F.type_list_pop mt_popAt (pv 3) (pa_cons (pe_cal c_law_roll hr (by decide) (by rfl) (pa_cons (pv 0) (pa_cons (pe_callB (cr_lenK K) (by rfl) g.b_len bt_len (pa_cons (pv 3) pa_nil)) pa_nil))) pa_nil)) pa_nil)))))
    (pss_one (ps_ret (pv 4))))), ?_⟩
    have hln : H l ≠ none := by obtain ⟨a, b, c, hl⟩ := hd; rw [hl]; exact fun z => nomatch z
    refine q_parLL (xs := xs) (ys := []) (el_list (ev_var rfl) hs) el_nil fun a1 a2 H1 h1 h2 n12 e1 g1 g2 => ?_
    have n1 : a1 ≠ l := fun z => hln (z ▸ h1)
    have n2 : a2 ≠ l := fun z => hln (z ▸ h2)
    refine q_forR1 (n := (xs.length : Int)) (ea_cons (ev_len (ev_var rfl) (ex_l e1 hs)) ea_nil) ⟨by omega, by omega⟩ (fun i σ H' => ∃ y2 ls fs, σ = [some (.ref l), some (.ref p), y2, some (.ref a1), some (.ref a2)] ∧ H' a1 = some (.lst ls) ∧ H' a2 = some (.lst fs) ∧ (fs ++ ls).Perm xs ∧ fs.length = i ∧ ExM l H H' ∧ Dice H' l)
      (fun H2 e2 => ⟨_, xs, [], rfl, e2 _ _ g1, e2 _ _ g2, .refl _, rfl, ExM.of (e1.trans e2), hd.ex (e1.trans e2)⟩) (fun i σ' H' hi hP => ?_) (fun σ' H' hP => ?_)
    · obtain ⟨y2, ls, fs, rfl, f1, f2, hp, hfl, ex, dx⟩ := hP
      have hlen := hp.length_eq
      rw [List.length_append] at hlen
      refine ⟨.ref a2, rfl, .inl ⟨rfl, fs, sq_of f2⟩, ?_⟩
      refine ⟨.ref a1, rfl, .inl ⟨rfl, ls, sq_of f1⟩, ?_⟩
      refine ⟨.ref l, rfl, .ref a1, rfl, a1, ls, rfl, .inl (sq_of f1), ?_⟩
      refine ⟨l, (ls.length : Int), rfl, by omega, by omega, dx, fun r H2 hr2 e2 d2 => ?_⟩
      have hr3 : r < ls.length := by omega
      have k1 := e2 a1 _ n1 f1
      have k2 := e2 a2 _ n2 f2
      refine ⟨a1, ls, (r : Int), r, ls[r], rfl, rfl, k1, by omega, by omega, by rw [seqIndex_of (by omega) (by omega)]; rfl, List.getElem?_eq_getElem hr3, ?_⟩
      refine ⟨a2, fs, ls[r], rfl, rfl, by rw [upd_ne n12.symm]; exact k2, by
        have : sizeLine = 16777216 := rfl
        omega, ?_⟩
      refine ⟨_, ls.eraseIdx r, fs ++ [ls[r]], rfl, by rw [upd_ne n12, upd_same], upd_same, ?_, by simp [hfl], exM_upd (exM_upd (ex.trans e2) h1) h2, ?_⟩
      · rw [List.append_assoc]
        exact ((List.Perm.append_left fs (erase_perm hr3))).trans hp
      · obtain ⟨a, b, c, hl⟩ := d2
        exact ⟨a, b, c, by rw [upd_ne n2.symm, upd_ne n1.symm]; exact hl⟩
    · obtain ⟨y2, ls, fs, rfl, f1, f2, hp, hfl, ex, dx⟩ := hP
      have hlen := hp.length_eq
      rw [List.length_append] at hlen
      have hfl : fs.length = xs.length := by omega
      have hls : ls = [] := List.eq_nil_of_length_eq_zero (by omega)
      subst hls
      rw [List.append_nil] at hp
      exact s_ret (v := .ref a2) (ev_var rfl) fun H2 e2 => q fs a2 H2 hp h2 (ex.trans (ExM.of e2)) (dx.ex e2) (e2 _ _ f2)
/-- a comprehension whose test rolls: any of the items, in order -/
theorem lc_roll {α : Type} {σ : L2.St} {H Hb : Hp} {l : Addr} {Q : VK} {as : List α} {f : α → V} {st : α → L2.St → L2.St} {wi : TI} {g : TG} {tt : TT} {te : TE} {vs : List Nat} (h : EvW wi g σ Hb as st) (hb : Hb l = none) (e0 : Ex Hb H) (hd : Dice H l) (hz : as.length ≤ 100000) (hw : ∀ a ∈ as, wipe (st a (wipe σ vs)) vs = wipe σ vs)
    (ht : ∀ a ∈ as, ∀ H1, Ex Hb H1 → Dice H1 l → ∀ Q : Bool → Hp → Prop, (∀ b H2, ExM l H1 H2 → Dice H2 l → Q b H2) → tt (st a (wipe σ vs)) H1 Q) (he : ∀ a ∈ as, ∀ H1, Ev te (st a (wipe σ vs)) H1 (f a))
    (k : ∀ (ys : List α) (p : Addr) (H' : Hp), ys.Sublist as → H p = none → ExM l H H' → Dice H' l → H' p = some (.lst (ys.map f)) → Q (.ref p) H') : tLc wi g tt te vs σ H Q :=
  h H e0 _ fun J H1 e1 ⟨G, Y, w, hG, hY⟩ Dl hD => by
    have hln : H l ≠ none := by obtain ⟨a, b, c, hl⟩ := hd; rw [hl]; exact fun z => nomatch z
    have hDl : Dl ≠ l := fun z => by
      obtain ⟨a, b, c, hl⟩ := hd
      rw [z, e1 l _ hl] at hD
      cases hD
    have hDH : H Dl = none := fresh_back e1 hD
    refine lc_it w (fun i H' => ∃ ys, ys.Sublist (as.take i) ∧ ExM l H1 H' ∧ Dice H' l ∧ H' Dl = some (.lst (ys.map f))) ⟨[], List.nil_sublist _, ExM.of (Ex.new hD), hd.ex (e1.trans (Ex.new hD)), upd_same⟩
      (fun i H' _ pp => ?_) (fun i x H2 H3 hi pp y => ?_) (fun H' pp => ?_)
    · obtain ⟨ys, _, ex, _⟩ := pp
      exact hG H' (keep_of hb hln ex)
    · obtain ⟨ys, hsub, ex, dx, hl⟩ := pp
      have ha : as[i]? = some as[i] := List.getElem?_eq_getElem hi
      have hm : as[i] ∈ as := List.getElem_mem hi
      refine hY i as[i] x H2 H3 ha y _ _ fun H4 e4 => ⟨hw _ hm, ?_⟩
      have ex4 : ExM l H1 H4 := ex.trans (ExM.of e4)
      refine ht _ hm H4 (ExM.ex (e0.trans e1) hb ex4) (dx.ex e4) _ fun b H5 e5 d5 => ?_
      have k5 := e5 Dl _ hDl (e4 Dl _ hl)
      have et : as.take (i + 1) = as.take i ++ [as[i]] := by rw [List.take_add_one, ha]; rfl
      cases b with
      | true =>
        refine he _ hm H5 H5 (Ex.refl _) _ fun H6 e6 => ⟨ys.map f, e6 Dl _ k5, ?_, ys ++ [as[i]], ?_, exM_upd (ex4.trans (e5.trans (ExM.of e6))) hD, ?_, ?_⟩
        · have := hsub.length_le
          rw [List.length_take] at this
          rw [List.length_map]
          have : sizeLine = 16777216 := rfl
          omega
        · rw [et]
          exact hsub.append (List.Sublist.refl _)
        · obtain ⟨a, b, c, hl⟩ := d5.ex e6
          exact ⟨a, b, c, by rw [upd_ne hDl.symm]; exact hl⟩
        · rw [upd_same, List.map_append]
          rfl
      | false =>
        refine ⟨ys, ?_, ex4.trans e5, d5, k5⟩
        rw [et]
        exact hsub.trans (List.sublist_append_left _ _)
    · obtain ⟨ys, hsub, ex, dx, hl⟩ := pp
      rw [List.take_length] at hsub
      exact k ys Dl H' hsub hDH ((ExM.of e1).trans ex) dx hl
def spSome (K : PySem.W.Frag) : Sp := fun vs H Q _ => ∃ (l p : Addr) (xs : List T), vs = [.ref l, .ref p] ∧ Dice H l ∧ p ≠ l ∧ SqL K H p (xs.map vS) ∧ xs.length ≤ 1000 ∧ ∀ (ys : List T) (q : Addr) (H' : Hp), ys.Sublist xs → H q = none → ExM l H H' → Dice H' l → H' q = some (.lst (ys.map vS)) → Q (.ref q) H'
theorem cal_law_some (g : Top K mg W) (F : DefX K mg "_law_some" s_law_some ["_law_dice_here", "_law_items"]) (c_law_roll : Cal P w K mg base 1 "_law_roll" (spRoll ())) : Cal P w K mg base 2 "_law_some" (spSome K) :=
  cal_of (k := 1) F cs_law_some (fun vs H Q E h => by obtain ⟨a, p, n, rfl, _⟩ := h; rfl) fun f cdv A outer s H vs Q E hr h => by
    obtain ⟨l, p, xs, rfl, hd, hpl, hs, hn, q⟩ := h
    refine ⟨_, (pss_one (ps_ret (pe_lc (own := [("_law_item", 2)]) rfl cs_law_some.nd (pi_listK K (pv 1)) (blkOk_by (by kernel_rfl)) (fun _ _ _ _ _ => (pg_name (i := 2) cs_law_some.nd rfl (by first | exact Or.inl rfl | exact Or.inr rfl))) (fun _ _ _ _ _ => (pts_one (pt_cmpR op_eq (pe_cal c_law_roll hr (by decide) (by rfl) (pa_cons (pv 0) (pa_cons pe_int pa_nil))) pe_int (by rfl)))) (fun _ _ _ _ _ => (pv 2))))), ?_⟩
    refine lc_roll (l := l) (Hb := delA H l) (as := xs) (f := vS) (ew_name (inj := vS) (ei_listA (ev_var rfl) (sq_del hs hpl))) delA_self delA_ex hd (by omega) (fun _ _ => rfl) (fun a _ H1 e1 d1 Q k => ?_) (fun a _ H1 => ev_var rfl) q
    refine ⟨.ref l, rfl, l, 2, rfl, by decide, by decide, d1, fun r H2 _ e2 d2 => ?_⟩
    exact ⟨rfl, _, rfl, k _ H2 e2 d2⟩
end
end WW

/-! what the law's defs compute, in plain Lean -/
namespace WW
def clash (C : List T) (a b : Nat) : Bool := decide (a = b) || decide ([min a b, max a b] ∈ C)
def lNear (C : List T) (a : Nat) (o : T) : T := o.filter fun c => !decide (c = a) && clash C a c
def lFirst (C : List T) (a : Nat) (o : T) : Bool := ((lNear C a o).filter fun c => decide ((lNear C c (lNear C a o)).length + 1 < (lNear C a o).length)).isEmpty
def lNearP (L : T) (C : List T) (p : T) : T := L.filter fun c => !decide (c ∈ p) && clash C (lastD p) c
def lBare1 (L : T) (C : List T) (p : T) : List T := ((lNearP L C p).filter fun c => !(p.dropLast.map fun t => clash C t c).any id).map fun c => p ++ [c]
def lBareOf (L : T) (C : List T) (ts : List T) : List T := ts.flatMap (lBare1 L C)
def lPaths (L : T) (C : List T) : Nat → List T
  | 0 => L.map fun c => [c]
  | k + 1 => lBareOf L C (lPaths L C k)
def lElim (L : T) (C : List T) (z : T) : Bool := decide (isort z = L) && z.zipIdx.all fun p => lFirst C p.1 (z.drop (p.2 + 1))
def minT (p : T) : Nat := p.tail.foldl min (headD p)
def lEnds1 (L : T) (p : T) : T := L.filter fun c => decide (secD p < c) && !decide (c ∈ p)
def lEnds (L : T) (C : List T) (p : T) : T := (lEnds1 L p).filter fun c => clash C c (headD p) && clash C c (lastD p)
def lRing1 (L : T) (C : List T) (p : T) : List T := if headD p = minT p then ((lEnds L C p).filter fun c => decide (lNear C c (p.drop 1).dropLast = [])).map fun c => p ++ [c] else []
/-- the rings of k + 4 letters -/
def lRingsAt (L : T) (C : List T) (k : Nat) : List T := (lPaths L C (k + 2)).flatMap (lRing1 L C)
def lRingGo (L : T) (C : List T) : Nat → Nat → List T
  | 0, _ => []
  | m + 1, k => if lRingsAt L C k = [] then lRingGo L C m (k + 1) else lRingsAt L C k
def lRings (L : T) (C : List T) : List T := lRingGo L C (L.length - 3) 0
def lClaw3 (C : List T) (near : T) (a b c : Nat) : List T := (near.filter fun d => decide (c < d) && decide (lNear C d [b, c] = [])).map fun d => [a, b, c, d]
def lClaw2 (C : List T) (near : T) (a b c : Nat) : List T := if clash C b c = true then [] else lClaw3 C near a b c
def lClaw1 (C : List T) (near : T) (a : Nat) : List T := near.zipIdx.flatMap fun p => (near.drop (p.2 + 1)).flatMap fun c => lClaw2 C near a p.1 c
def lClaws (L : T) (C : List T) : List T := L.flatMap fun a => lClaw1 C (lNear C a L) a
def lFan1 (L : T) (C : List T) (p : T) : List T := if headD p < lastD p then (L.filter fun c => !decide (c ∈ p) && decide ((lNear C c p).length = 4)).map fun c => p ++ [c] else []
def lFans (L : T) (C : List T) : List T := (lPaths L C 3).flatMap (lFan1 L C)
theorem lNear_len {C : List T} {a : Nat} {o : T} : (lNear C a o).length ≤ o.length := List.length_filter_le _ _
theorem lNear_mem {C : List T} {a c : Nat} {o : T} (h : c ∈ lNear C a o) : c ∈ o := (List.mem_filter.mp h).1
theorem lBare1_len {L p : T} {C : List T} : (lBare1 L C p).length ≤ L.length := by
  unfold lBare1
  rw [List.length_map]
  exact Nat.le_trans (List.length_filter_le _ _) (List.length_filter_le _ _)
theorem mem_lbare {L : T} {C : List T} {ts : List T} {p : T} : p ∈ lBareOf L C ts ↔ ∃ g ∈ ts, ∃ c ∈ L, c ∉ g ∧ clash C (lastD g) c = true ∧ (∀ t ∈ g.dropLast, clash C t c = false) ∧ p = g ++ [c] := by
  unfold lBareOf lBare1 lNearP
  simp only [List.mem_flatMap, List.mem_map, List.mem_filter, Bool.and_eq_true, Bool.not_eq_true', decide_eq_false_iff_not]
  have hx : ∀ (g : T) (c : Nat), (g.dropLast.map fun t => clash C t c).any id = false ↔ ∀ t ∈ g.dropLast, clash C t c = false := fun g c => by
    rw [List.any_eq_false]
    refine ⟨fun h t ht => ?_, fun h b hb => ?_⟩
    · have := h _ (List.mem_map_of_mem ht)
      simpa using this
    · obtain ⟨t, ht, rfl⟩ := List.mem_map.mp hb
      simp [h t ht]
  constructor
  · rintro ⟨g, hg, c, ⟨⟨h1, h2, h3⟩, h4⟩, rfl⟩
    exact ⟨g, hg, c, h1, h2, h3, (hx g c).mp h4, rfl⟩
  · rintro ⟨g, hg, c, h1, h2, h3, h4, rfl⟩
    exact ⟨g, hg, c, ⟨⟨h1, h2, h3⟩, (hx g c).mpr h4⟩, rfl⟩
theorem lay_lbare {L : T} {C : List T} {k : Nat} {ts : List T} (h : Lay L k ts) : Lay L (k + 1) (lBareOf L C ts) := fun p hp => by
  obtain ⟨g, hg, c, hc, h2, _, _, rfl⟩ := mem_lbare.mp hp
  obtain ⟨g1, g2, g3⟩ := h g hg
  refine ⟨nodup_snoc g1 h2, by rw [List.length_append, g2]; rfl, fun x hx => ?_⟩
  rcases List.mem_append.1 hx with hx | hx
  · exact g3 x hx
  · rw [List.mem_singleton] at hx
    exact hx ▸ hc
theorem lbare_len {L : T} {C : List T} {k : Nat} {ts : List T} (hL : L.Nodup) (h : Lay L k ts) (hl : ts.length ≤ dsc L.length k) : (lBareOf L C ts).length ≤ dsc L.length (k + 1) := by
  refine Nat.le_trans (flat_len2 (n := L.length - k) hl fun g hg => ?_) (Nat.le_refl _)
  obtain ⟨g1, g2, g3⟩ := h g hg
  have e := ext_len hL g1 g3
  unfold lBare1 lNearP
  rw [List.length_map, List.filter_filter]
  have e2 := filter_le_filter (l := L) (p := fun a => (!(g.dropLast.map fun t => clash C t a).any id) && (!decide (a ∈ g) && clash C (lastD g) a)) (q := fun c => !decide (c ∈ g)) fun x _ hp => by
    simp only [ Bool.and_eq_true ] at hp
    exact hp.2.1
  omega
theorem lpaths_ok {L : T} {C : List T} (hL : L.Nodup) : ∀ k, Lay L (k + 1) (lPaths L C k) ∧ (lPaths L C k).length ≤ dsc L.length (k + 1)
  | 0 => ⟨lay_ones, ones_len⟩
  | k + 1 => ⟨lay_lbare (lpaths_ok hL k).1, lbare_len hL (lpaths_ok hL k).1 (lpaths_ok hL k).2⟩
theorem minT_go : ∀ (r : T) (a : Nat), r.foldl min a ∈ a :: r ∧ ∀ y ∈ a :: r, r.foldl min a ≤ y
  | [], a => ⟨.head _, fun y hy => by rw [List.mem_singleton] at hy; subst hy; exact Nat.le_refl _⟩
  | b :: r, a => by
    obtain ⟨h1, h2⟩ := minT_go r (min a b)
    show r.foldl min (min a b) ∈ _ ∧ ∀ y ∈ _, r.foldl min (min a b) ≤ y
    have hm := h2 (min a b) (.head _)
    refine ⟨?_, fun y hy => ?_⟩
    · rcases List.mem_cons.mp h1 with e | h1
      · rw [e]
        by_cases h : a ≤ b
        · rw [Nat.min_eq_left h]; exact .head _
        · rw [Nat.min_eq_right (by omega)]; exact .tail _ (.head _)
      · exact .tail _ (.tail _ h1)
    · rcases List.mem_cons.mp hy with e | hy
      · subst e; omega
      · rcases List.mem_cons.mp hy with e | hy
        · subst e; omega
        · exact h2 y (.tail _ hy)
theorem minT_mem {p : T} (h : p ≠ []) : minT p ∈ p := by
  cases p with
  | nil => exact absurd rfl h
  | cons a r => exact (minT_go r a).1
theorem minT_le {p : T} {y : Nat} (h : y ∈ p) : minT p ≤ y := by
  cases p with
  | nil => cases h
  | cons a r => exact (minT_go r a).2 y h
theorem lRing1_len {L p : T} {C : List T} : (lRing1 L C p).length ≤ L.length := by
  unfold lRing1
  split
  · rw [List.length_map]
    exact Nat.le_trans (List.length_filter_le _ _) (Nat.le_trans (List.length_filter_le _ _) (List.length_filter_le _ _))
  · exact Nat.zero_le _
theorem lFan1_len {L p : T} {C : List T} : (lFan1 L C p).length ≤ L.length := by
  unfold lFan1
  split
  · rw [List.length_map]
    exact List.length_filter_le _ _
  · exact Nat.zero_le _
theorem lClaw2_len {C : List T} {near : T} {a b c : Nat} : (lClaw2 C near a b c).length ≤ near.length := by
  unfold lClaw2 lClaw3
  split
  · exact Nat.zero_le _
  · rw [List.length_map]
    exact List.length_filter_le _ _
end WW

/-! the law's walk: clash, near, first, pairs, bare paths -/
namespace WW
open PySem PySem.Spec PyProof.Rows L2 Evl
section
variable {K : PySem.W.Frag} {σ : L2.St} {H H' : Hp} {ta tb te tx to : TE} {t u : TT}
theorem ev_min2S {a b : Nat} (h : Ev ta σ H (v1 a)) (h2 : Ev tb σ H (v1 b)) : Ev (tCB rMin2S (tCons ta (tCons tb tNil))) σ H (v1 (min a b)) := ev_cb (ea_cons h (ea_cons h2 ea_nil)) fun H1 _ Q q => ⟨S [a], S [b], rfl, by
  have e : (if (S [b]).cps.toList < (S [a]).cps.toList then S [b] else S [a]) = S [min a b] := by
    show (if ([b] : T) < [a] then S [b] else S [a]) = _
    by_cases hb : b < a
    · rw [if_pos (one_ltP.mpr hb), Nat.min_eq_right (by omega)]
    · rw [if_neg (fun z => hb (one_ltP.mp z)), Nat.min_eq_left (by omega)]
  rw [e]
  exact q H1 (Ex.refl _)⟩
theorem ev_max2S {a b : Nat} (h : Ev ta σ H (v1 a)) (h2 : Ev tb σ H (v1 b)) : Ev (tCB rMax2S (tCons ta (tCons tb tNil))) σ H (v1 (max a b)) := ev_cb (ea_cons h (ea_cons h2 ea_nil)) fun H1 _ Q q => ⟨S [a], S [b], rfl, by
  have e : (if (S [a]).cps.toList < (S [b]).cps.toList then S [b] else S [a]) = S [max a b] := by
    show (if ([a] : T) < [b] then S [b] else S [a]) = _
    by_cases hb : a < b
    · rw [if_pos (one_ltP.mpr hb), Nat.max_eq_right (by omega)]
    · rw [if_neg (fun z => hb (one_ltP.mp z)), Nat.max_eq_left (by omega)]
  rw [e]
  exact q H1 (Ex.refl _)⟩
end
section
variable {P : Program} {w : World} {K : PySem.W.Frag} {mg : Str → Option Value} {base : Heap} {W : Addr}
def spClash (K : PySem.W.Frag) : Sp := fun vs H Q _ => ∃ (t : Addr) (C : List T) (a b : Nat), vs = [.ref t, v1 a, v1 b] ∧ SqT K H t (C.map vS) ∧ RetV (.bl (clash C a b)) H Q
theorem dec_one {a b : Nat} : decide (([a] : T) = [b]) = decide (a = b) := by simp
theorem cal_law_clash (g : Top K mg W) (F : DefX K mg "_law_clash" s_law_clash ["_law_conflicts_here", "_law_one", "_law_other"]) : Cal P w K mg base 1 "_law_clash" (spClash K) :=
  cal_of (k := 0) F cs_law_clash (fun vs H Q E h => by obtain ⟨a, p, n, m, rfl, _⟩ := h; rfl) fun f cdv A outer s H vs Q E hr h => by
    obtain ⟨t, C, a, b, rfl, ht, q⟩ := h
    refine ⟨_, (pss_one (ps_ret (pe_or (pe_cmpR op_eq (pv 1) (pv 2) (by rfl)) (pe_one (pe_cmpR (op_inK K) (pe_op op_wAdd (pe_callB (cr_min2S rfl) (by rfl) g.b_min bt_min (pa_cons (pv 1) (pa_cons (pv 2) pa_nil))) (pe_callB (cr_max2S rfl) (by rfl) g.b_max bt_max (pa_cons (pv 1) (pa_cons (pv 2) pa_nil)))) (pv 0) (by rfl)))))), ?_⟩
    refine s_ret (v := .bl (clash C a b)) ?_ q
    refine ev_orV (ev_is (ev_op (ev_var rfl) (ev_var rfl) (rv_eqT (a := [a]) (b := [b]))) (by rw [dec_one])) fun _ => ?_
    exact ev_op (ev_op (ev_min2S (ev_var rfl) (ev_var rfl)) (ev_max2S (ev_var rfl) (ev_var rfl)) (rv_add (a := [min a b]) (b := [max a b]) (by simp))) (ev_var rfl) (rv_inT ht)
def spNear (K : PySem.W.Frag) : Sp := fun vs H Q _ => ∃ (t : Addr) (C : List T) (a : Nat) (o : T), vs = [.ref t, v1 a, vS o] ∧ SqT K H t (C.map vS) ∧ o.length ≤ 1000 ∧ RetV (vS (lNear C a o)) H Q
theorem cal_law_near (g : Top K mg W) (F : DefX K mg "_law_near" s_law_near ["_law_conflicts_here", "_law_letter", "_law_others"]) (c_law_clash : Cal P w K mg base 1 "_law_clash" (spClash K)) : Cal P w K mg base 2 "_law_near" (spNear K) :=
  cal_of (k := 1) F cs_law_near (fun vs H Q E h => by obtain ⟨a, p, n, m, rfl, _⟩ := h; rfl) fun f cdv A outer s H vs Q E hr h => by
    obtain ⟨t, C, a, o, rfl, ht, ho, q⟩ := h
    refine ⟨_, (pss_one (ps_ret (pe_m1 PySem.F.slot_str_join PySem.F.type_str_join (mt_joinK K) pe_str (pe_lc (own := [("_law_one", 3)]) rfl cs_law_near.nd (pi_str (pv 2)) (blkOk_by (by kernel_rfl)) (fun _ _ _ _ _ => (pg_name (i := 3) cs_law_near.nd rfl (by first | exact Or.inl rfl | exact Or.inr rfl))) (fun _ _ _ _ _ => (pts_one ((pw_and (pt_cmpR op_ne (pv 3) (pv 1) (by rfl)) (pw_and1 (pt_val (pe_cal c_law_clash hr (by decide) (by rfl) (pa_cons (pv 0) (pa_cons (pv 1) (pa_cons (pv 3) pa_nil)))))))).pt)) (fun _ _ _ _ _ => (pv 3)))))), ?_⟩
    refine s_ret (v := vS (lNear C a o)) ?_ q
    refine ev_joinC ev_c (el_lcC (as := o) (fun c => !decide (c = a) && clash C a c) (ew_name (ei_str (ev_var rfl))) (slen ho) (fun _ _ => rfl) (fun c _ H1 e1 => ?_) fun c _ _ H1 _ => ev_var rfl) (Nat.le_trans lNear_len (by omega))
    exact et_and (et_is (et_test (ev_op (ev_var rfl) (ev_var rfl) (rv_neT (a := [c]) (b := [a])))) (by rw [dec_one])) fun _ => et_B (ev_cal (ea_cons (ev_var rfl) (ea_cons (ev_var rfl) (ea_cons (ev_var rfl) ea_nil))) fun H2 e2 Q q E => ⟨t, C, a, c, rfl, ex_t (e1.trans e2) ht, q⟩)
def spFirst (K : PySem.W.Frag) : Sp := fun vs H Q _ => ∃ (t : Addr) (C : List T) (a : Nat) (o : T), vs = [.ref t, v1 a, vS o] ∧ SqT K H t (C.map vS) ∧ o.length ≤ 1000 ∧ RetV (.bl (lFirst C a o)) H Q
/-- [one for one in near if len(near(one, near)) < len(near) - 1] -/
theorem dec_lt1 {a b : Nat} : decide ((a : Int) < (b : Int) - 1) = decide (a + 1 < b) := by
  by_cases h : a + 1 < b
  · rw [decide_eq_true h, decide_eq_true]; omega
  · rw [decide_eq_false h, decide_eq_false]; omega
theorem cal_law_first (g : Top K mg W) (F : DefX K mg "_law_first" s_law_first ["_law_conflicts_here", "_law_letter", "_law_left"]) (c_law_near : Cal P w K mg base 2 "_law_near" (spNear K)) : Cal P w K mg base 3 "_law_first" (spFirst K) :=
  cal_of (k := 2) F cs_law_first (fun vs H Q E h => by obtain ⟨a, p, n, m, rfl, _⟩ := h; rfl) fun f cdv A outer s H vs Q E hr h => by
    obtain ⟨t, C, a, o, rfl, ht, ho, q⟩ := h
    have hl := lNear_len (C := C) (a := a) (o := o)
    refine ⟨_, (pss_cons (ps_set (i := 3) cs_law_first.nd rfl (.inr rfl) (pe_cal c_law_near hr (by decide) (by rfl) (pa_cons (pv 0) (pa_cons (pv 1) (pa_cons (pv 2) pa_nil)))))
    (pss_one (ps_ret (pe_cmpR (op_eqNilK K (by exact hr.units)) (pe_lc (own := [("_law_one", 4)]) rfl cs_law_first.nd (pi_str (pv 3)) (blkOk_by (by kernel_rfl)) (fun _ _ _ _ _ => (pg_name (i := 4) cs_law_first.nd rfl (by first | exact Or.inl rfl | exact Or.inr rfl))) (fun _ _ _ _ _ => (pts_one (pt_cmpR op_lt (pe_callB cr_wLenT (by rfl) g.b_len bt_len (pa_cons (pe_cal c_law_near hr (by decide) (by rfl) (pa_cons (pv 0) (pa_cons (pv 4) (pa_cons (pv 3) pa_nil)))) pa_nil)) (pe_op op_sub (pe_callB cr_wLenT (by rfl) g.b_len bt_len (pa_cons (pv 3) pa_nil)) pe_int) (by rfl)))) (fun _ _ _ _ _ => (pv 4))) (pe_lst pa_nil) (by rfl))))), ?_⟩
    refine q_asg (v := vS (lNear C a o)) (ev_cal (ea_cons (ev_var rfl) (ea_cons (ev_var rfl) (ea_cons (ev_var rfl) ea_nil))) fun H2 e2 Q q E => ⟨t, C, a, o, rfl, ex_t e2 ht, ho, q⟩) fun H1 e1 => ?_
    refine s_ret (v := .bl (lFirst C a o)) ?_ fun H2 e2 => q H2 (e1.trans e2)
    refine ev_is (ev_eqNil (el_lcC (as := lNear C a o) (fun c => decide ((lNear C c (lNear C a o)).length + 1 < (lNear C a o).length)) (ew_name (ei_str (ev_var rfl))) (slen (by omega)) (fun _ _ => rfl) (fun c _ H2 e2 => ?_) fun c _ _ H1 _ => ev_var rfl) el_nil) (by rw [isE_map]; rfl)
    have hl2 := lNear_len (C := C) (a := c) (o := lNear C a o)
    exact et_is (et_test (ev_op (ev_lenT (ev_cal (ea_cons (ev_var rfl) (ea_cons (ev_var rfl) (ea_cons (ev_var rfl) ea_nil))) fun H3 e3 Q q E => ⟨t, C, c, lNear C a o, rfl, ex_t (e1.trans (e2.trans e3)) ht, by omega, q⟩) (by omega)) (ev_op (ev_lenT (ev_var rfl) (by omega)) ev_c rv_I0) rv_I0)) dec_lt1
theorem cal_law_pairs (g : Top K mg W) (F : DefX K mg "_law_pairs" s_law_pairs ["_law_letters"]) : Cal P w K mg base 1 "_law_pairs" spPairsOf :=
  cal_of (k := 0) F cs_law_pairs (fun vs H Q E h => by obtain ⟨a, rfl, _⟩ := h; rfl) fun f cdv A outer s H vs Q E hr h => by
    obtain ⟨L, rfl, hL, q⟩ := h
    refine ⟨_, (pss_cons (ps_set (i := 1) cs_law_pairs.nd rfl (.inl rfl) (pe_lst pa_nil))
    (pss_cons (ps_for PassesOwn.never rfl (pi_enumS (by rfl) g.b_enumerate (pa_cons (pv 0) pa_nil)) (pg_tupK K (n := 2) rfl (pgs_cons (pg_name (i := 2) cs_law_pairs.nd rfl (.inl rfl)) (pgs_cons (pg_name (i := 3) cs_law_pairs.nd rfl (.inr rfl)) pgs_nil)))
    (pss_one (ps_expr (pe_bm PySem.F.plainAttrs_list PySem.F.slot_list_extend PySem.F.type_list_extend mt_extend (pv 1) (pa_cons (pe_lc (own := [("_law_other", 4)]) rfl cs_law_pairs.nd (pi_str (pe_slice sl_str (pv 0) (po_some (pe_op op_add (pv 2) pe_int)) po_none)) (blkOk_by (by kernel_rfl)) (fun _ _ _ _ _ => (pg_name (i := 4) cs_law_pairs.nd rfl (by first | exact Or.inl rfl | exact Or.inr rfl))) (fun _ _ _ _ _ => pts_nil) (fun _ _ _ _ _ => (pe_op op_wAdd (pv 3) (pv 4)))) pa_nil)))))
    (pss_one (ps_ret (pv 1))))), ?_⟩
    refine q_asgL (xs := []) el_nil fun l H1 hl e1 h1 => ?_
    refine q_forM (l := l) (as := L.zipIdx) (ew_pair (f := fun p => (.int (p.2 : Nat), v1 p.1)) (ei_enumS (ev_var rfl))) (Ex.trans e1 (Ex.refl _)) hl (fun i => ((L.zipIdx.take i).flatMap fun p => (L.drop (p.2 + 1)).map fun o => [p.1, o]).map vS) h1 (fun i σ => ∃ y2 y3 y4, σ = [some (vS L), some (.ref l), y2, y3, y4]) ⟨_, _, _, rfl⟩ (fun i p σ' H' hi hσ e hl' N k => ?_) (fun σ' H' hσ e hl' => ?_)
    · obtain ⟨y2, y3, y4, rfl⟩ := hσ
      refine s_ext (l := l) (ys := ((L.drop (p.2 + 1)).map fun o => [p.1, o]).map vS) hl' (ev_var rfl) ?_ ?_ fun H3 e3 => k _ _ ⟨_, _, _, rfl⟩ ((ExM.of e3).trans ExM.upd) ?_
      · refine el_lcTY (as := L.drop (p.2 + 1)) (fun o => [p.1, o]) (ew_name (ei_str (ev_sl (ev_var rfl) (eo_some (ev_is (ev_op (ev_var rfl) ev_c rv_I0) (by show V.int _ = V.int ((p.2 + 1 : Nat) : Int); rfl))) eo_none (by omega) (cut_from L (p.2 + 1))))) (slen (by rw [List.length_drop]; omega)) (fun _ _ => rfl) fun o _ H3 _ => ev_op (ev_var rfl) (ev_var rfl) (rv_add (a := [p.1]) (b := [o]) (by simp))
      · have n1 := flat_take_len (i := i) (as := L.zipIdx) (f := fun p : Nat × Nat => (L.drop (p.2 + 1)).map fun o => [p.1, o]) (n := 30) (m := 30) (by simpa using hL) fun p _ => by rw [List.length_map, List.length_drop]; omega
        rw [List.length_map, List.length_map, List.length_map, List.length_drop]
        have : sizeLine = 16777216 := rfl
        omega
      · show upd H3 l _ l = _
        rw [upd_same, flat_take hi, List.map_append]
    · obtain ⟨y2, y3, y4, rfl⟩ := hσ
      rw [List.take_length] at hl'
      exact s_ret (v := .ref l) (ev_var rfl) fun H2 e2 => q l H2 hl ((ExM.ex e1 hl e).trans e2) (e2 l _ hl')
def spLBare (K : PySem.W.Frag) : Sp := fun vs H Q _ => ∃ (t : Addr) (L : T) (C : List T) (n : Nat), vs = [vS L, .ref t, .int ((n + 1 : Nat) : Int)] ∧ SqT K H t (C.map vS) ∧ L.length ≤ 9 ∧ L.Nodup ∧ n ≤ 8 ∧ RetL ((lPaths L C n).map vS) H Q
theorem cal_law_bare_paths (g : Top K mg W) (F : DefX K mg "_law_bare_paths" s_law_bare_paths ["_law_letters", "_law_conflicts_here", "_law_length"]) (c_law_clash : Cal P w K mg base 1 "_law_clash" (spClash K)) : Cal P w K mg base 2 "_law_bare_paths" (spLBare K) :=
  cal_of (k := 1) F cs_law_bare_paths (fun vs H Q E h => by obtain ⟨a, p, n, m, rfl, _⟩ := h; rfl) fun f cdv A outer s H vs Q E hr h => by
    obtain ⟨t, L, C, n, rfl, ht, h9, hL, hn, q⟩ := h
    refine ⟨_, (pss_cons (ps_setLc (i := 3) (own := [("_law_letter", 7)]) rfl cs_law_bare_paths.nd rfl rfl (sw_true rfl rfl rfl (by kernel_rfl)) (pi_str (pv 0)) (blkOk_by (by kernel_rfl)) (fun _ _ _ _ _ => (pg_name (i := 7) cs_law_bare_paths.nd rfl (by first | exact Or.inl rfl | exact Or.inr rfl))) (fun _ _ _ _ _ => pts_nil) (fun _ _ _ _ _ => (pv 7)))
    (pss_cons (ps_for PassesOwn.never rfl (pi_range1 (by rfl) g.b_range (pa_cons (pe_op op_sub (pv 2) pe_int) pa_nil)) (pg_name (i := 4) cs_law_bare_paths.nd rfl (.inl rfl))
    (pss_cons (ps_set (i := 5) cs_law_bare_paths.nd rfl (.inl rfl) (pe_lst pa_nil))
    (pss_cons (ps_for PassesOwn.never rfl (pi_listK K (pv 3)) (pg_name (i := 6) cs_law_bare_paths.nd rfl (.inr rfl))
    (pss_cons (ps_setLc (i := 8) (own := [("_law_one", 9)]) rfl cs_law_bare_paths.nd rfl rfl (sw_true rfl rfl rfl (by kernel_rfl)) (pi_str (pv 0)) (blkOk_by (by kernel_rfl)) (fun _ _ _ _ _ => (pg_name (i := 9) cs_law_bare_paths.nd rfl (by first | exact Or.inl rfl | exact Or.inr rfl))) (fun _ _ _ _ _ => (pts_one ((pw_and (pt_cmpR op_wNin (pv 9) (pv 6) (by rfl)) (pw_and1 (pt_val (pe_cal c_law_clash hr (by decide) (by rfl) (pa_cons (pv 1) (pa_cons (pe_ix ix_str (pv 6) (pe_un un_neg pe_int) (fun _ _ => rfl)) (pa_cons (pv 9) pa_nil)))))))).pt)) (fun _ _ _ _ _ => (pv 9)))
    (pss_one (ps_expr (pe_bm PySem.F.plainAttrs_list PySem.F.slot_list_extend PySem.F.type_list_extend mt_extend (pv 5) (pa_cons (pe_lc (own := [("_law_one", 9)]) rfl cs_law_bare_paths.nd (pi_listK K (pv 8)) (blkOk_by (by kernel_rfl)) (fun _ _ _ _ _ => (pg_name (i := 9) cs_law_bare_paths.nd rfl (by first | exact Or.inl rfl | exact Or.inr rfl))) (fun _ _ _ _ _ => (pts_one (pt_not (pt_val (pe_callB (cr_anyK K rfl) (by rfl) g.b_any bt_any (pa_cons (pe_lc (own := [("_law_two", 10)]) rfl cs_law_bare_paths.nd (pi_str (pe_slice sl_str (pv 6) po_none (po_some (pe_un un_neg pe_int)))) (blkOk_by (by kernel_rfl)) (fun _ _ _ _ _ => (pg_name (i := 10) cs_law_bare_paths.nd rfl (by first | exact Or.inl rfl | exact Or.inr rfl))) (fun _ _ _ _ _ => pts_nil) (fun _ _ _ _ _ => (pe_cal c_law_clash hr (by decide) (by rfl) (pa_cons (pv 1) (pa_cons (pv 10) (pa_cons (pv 9) pa_nil)))))) pa_nil)))))) (fun _ _ _ _ _ => (pe_op op_wAdd (pv 6) (pv 9)))) pa_nil))))))
    (pss_one (ps_set (i := 3) cs_law_bare_paths.nd rfl (.inl rfl) (pe_callTy (cr_listK K) (by rfl) g.b_list bt_list (pa_cons (pv 5) pa_nil)))))))
    (pss_one (ps_ret (pv 3))))), ?_⟩
    refine q_asgL (xs := (lPaths L C 0).map vS) ?_ fun r0 H1 hr0 e1 h1 => ?_
    · exact el_lcTY (as := L) (fun c => [c]) (ew_name (ei_str (ev_var rfl))) (slen (by omega)) (fun _ _ => rfl) fun c _ H1 _ => ev_var rfl
    refine q_forR1 (n := (n : Int)) (ea_cons (ev_is (ev_op (ev_var rfl) ev_c rv_I0) (by show V.int (((n + 1 : Nat) : Int) - 1) = V.int (n : Int); congr 1; omega)) ea_nil) (by omega) (fun i σ H' => ∃ r' y4 y5 y6 y7 y8 y9 y10, σ = [some (vS L), some (.ref t), some (.int ((n + 1 : Nat) : Int)), some (.ref r'), y4, y5, y6, y7, y8, y9, y10] ∧ Ex H H' ∧ H' r' = some (.lst ((lPaths L C i).map vS)) ∧ H r' = none)
      (fun H2 e2 => ⟨r0, _, _, _, _, _, _, _, rfl, e1.trans e2, e2 _ _ h1, hr0⟩) (fun i σ' H' hi hP => ?_) (fun σ' H' hP => ?_)
    · obtain ⟨r', y4, y5, y6, y7, y8, y9, y10, rfl, e, hs, hrn⟩ := hP
      have po := lpaths_ok (C := C) hL i
      have b4 : (lPaths L C i).length ≤ 400000 := dsc_400 h9 (by omega) po.2
      refine q_asgL (xs := []) el_nil fun l H2 hl e2 h2 => ?_
      have rl : r' ≠ l := fun z => by rw [← z, hs] at hl; cases hl
      refine q_forM (l := l) (H0 := H') (as := lPaths L C i) (ew_name (inj := vS) (ei_listA (ev_var rfl) (sq_of hs))) e2 hl (fun j => (((lPaths L C i).take j).flatMap (lBare1 L C)).map vS) h2 (fun j σ => ∃ y6 y7 y8 y9 y10, σ = [some (vS L), some (.ref t), some (.int ((n + 1 : Nat) : Int)), some (.ref r'), some (.int (i : Int)), some (.ref l), y6, y7, y8, y9, y10]) ⟨_, _, _, _, _, rfl⟩ (fun j p σ'' H3 hj hσ e3 hl3 N k => ?_) (fun σ'' H3 hσ e3 hl3 => ?_)
      · obtain ⟨y6, y7, y8, y9, y10, rfl⟩ := hσ
        have hm := List.mem_of_getElem? hj
        obtain ⟨p1, p2, p3⟩ := po.1 p hm
        have hne : p ≠ [] := lay_ne po.1 p hm
        have htH : SqT K H3 t (C.map vS) := ex_t (e.trans e3) ht
        refine q_asgL (xs := (lNearP L C p).map v1) (el_lcC (as := L) (fun c => !decide (c ∈ p) && clash C (lastD p) c) (ew_name (ei_str (ev_var rfl))) (slen (by omega)) (fun _ _ => rfl) (fun c _ H4 e4 => ?_) fun c _ _ H4 _ => ev_var rfl) fun q1 H4 hq1 e4 h4 => ?_
        · exact et_and (et_test (ev_op (ev_var rfl) (ev_var rfl) rv_nin)) fun _ => et_B (ev_cal (ea_cons (ev_var rfl) (ea_cons (ev_op (ev_var rfl) (ev_un ev_c ru_neg) (rv_ix (by omega) (atI_end hne))) (ea_cons (ev_var rfl) ea_nil))) fun H5 e5 Q q E => ⟨t, C, lastD p, c, rfl, ex_t (e4.trans e5) htH, q⟩)
        · refine s_ext (l := l) (ys := (lBare1 L C p).map vS) (e4 l _ hl3) (ev_var rfl) ?_ ?_ fun H5 e5 => k _ _ ⟨_, _, _, _, _, rfl⟩ ((ExM.of (e4.trans e5)).trans ExM.upd) ?_
          · refine el_lcT (as := lNearP L C p) (fun c => !(p.dropLast.map fun t => clash C t c).any id) (fun c => p ++ [c]) (ew_name (ei_listA (ev_var rfl) (sq_of h4))) (slen (Nat.le_trans (List.length_filter_le _ _) (by omega))) (fun _ _ => rfl) (fun c hc H5 e5 => ?_) fun c _ _ H5 _ => ev_op (ev_var rfl) (ev_var rfl) (rv_add (by simp; omega))
            exact et_not (et_B (ev_any (el_lcBY (as := p.dropLast) (fun t => clash C t c) (ew_name (ei_str (ev_sl (ev_var rfl) eo_none (eo_some (ev_un ev_c ru_neg)) (by omega) (cut_but p)))) (slen (by rw [List.length_dropLast]; omega)) (fun _ _ => rfl) fun a _ H6 e6 => ev_cal (ea_cons (ev_var rfl) (ea_cons (ev_var rfl) (ea_cons (ev_var rfl) ea_nil))) fun H7 e7 Q q E => ⟨t, C, a, c, rfl, ex_t (e4.trans (e5.trans (e6.trans e7))) htH, q⟩)))
          · have n1 := flat_take_len (i := j) (f := lBare1 L C) b4 fun _ _ => Nat.le_trans lBare1_len h9
            have n2 := lBare1_len (L := L) (p := p) (C := C)
            rw [List.length_map, List.length_map]
            have : sizeLine = 16777216 := rfl
            omega
          · show upd H5 l _ l = _
            rw [upd_same, flat_take hj, List.map_append]
      · obtain ⟨y6, y7, y8, y9, y10, rfl⟩ := hσ
        rw [List.take_length] at hl3
        have exH3 : Ex H H3 := e.trans (ExM.ex e2 hl e3)
        refine s_asgL (xs := (lPaths L C (i + 1)).map vS) (el_list (ev_var rfl) (sq_of hl3)) fun q2 H4 hq2 e4 h4 => ⟨q2, _, _, _, _, _, _, _, rfl, exH3.trans e4, h4, fresh_back exH3 hq2⟩
    · obtain ⟨r', y4, y5, y6, y7, y8, y9, y10, rfl, e, hs, hrn⟩ := hP
      have hn2 : ((n : Int)).toNat = n := by simp
      rw [hn2] at hs
      exact s_ret (v := .ref r') (ev_var rfl) fun H2 e2 => q r' H2 hrn (e.trans e2) (e2 _ _ hs)
end
end WW

/-! the law's walk: eliminates, rings, claws, fans -/
namespace WW
open PySem PySem.Spec PyProof.Rows L2 Evl
section
variable {K : PySem.W.Frag} {σ : L2.St} {H H' : Hp} {ta tb te tx to : TE} {t u : TT}
theorem ev_minT {p : T} (h : Ev te σ H (vS p)) (hne : p ≠ []) : Ev (tCB rMinT (tCons te tNil)) σ H (v1 (minT p)) := ev_cb (ea_cons h ea_nil) fun H1 _ Q q => ⟨S p, rfl, by
  show 0 < (S p).length
  rw [S_len]
  exact List.length_pos_iff.mpr hne, fun c hc hd => by
  have e : c = minT p := by
    have h1 := minT_le (p := p) (y := c) hc
    have h2 := hd (minT p) (minT_mem hne)
    omega
  rw [e]
  exact q H1 (Ex.refl _)⟩
theorem zipIdx_at {z : T} {i : Nat} {p : Nat × Nat} (h : z.zipIdx[i]? = some p) : z[i]? = some p.1 ∧ p.2 = i := by
  rw [List.getElem?_zipIdx] at h
  cases hz : z[i]? with
  | none => rw [hz] at h; cases h
  | some c =>
    rw [hz] at h
    have h : some (c, 0 + i) = some p := h
    cases h
    exact ⟨rfl, by omega⟩
end
section
variable {P : Program} {w : World} {K : PySem.W.Frag} {mg : Str → Option Value} {base : Heap} {W : Addr}
def spLElim (K : PySem.W.Frag) : Sp := fun vs H Q _ => ∃ (t : Addr) (L : T) (C : List T) (z : T), vs = [vS L, .ref t, vS z] ∧ SqT K H t (C.map vS) ∧ z.length < 64 ∧ RetV (.bl (lElim L C z)) H Q
theorem cal_law_eliminates (g : Top K mg W) (F : DefX K mg "_law_eliminates" s_law_eliminates ["_law_letters", "_law_conflicts_here", "_law_order"]) (c_law_near : Cal P w K mg base 2 "_law_near" (spNear K)) : Cal P w K mg base 3 "_law_eliminates" (spLElim K) :=
  cal_of (k := 2) F cs_law_eliminates (fun vs H Q E h => by obtain ⟨a, p, n, m, rfl, _⟩ := h; rfl) fun f cdv A outer s H vs Q E hr h => by
    obtain ⟨t, L, C, z, rfl, ht, hz, q⟩ := h
    refine ⟨_, (pss_cons (ps_if (pt_cmpR op_ne (pe_m1 PySem.F.slot_str_join PySem.F.type_str_join (mt_joinK K) pe_str (pe_callB (cr_sortT rfl) (by rfl) g.b_sorted bt_sorted (pa_cons (pv 2) pa_nil))) (pv 0) (by rfl)) (pss_one (ps_ret pe_bl)) pss_nil)
    (pss_cons (ps_for PassesOwn.never rfl (pi_enumS (by rfl) g.b_enumerate (pa_cons (pv 2) pa_nil)) (pg_tupK K (n := 2) rfl (pgs_cons (pg_name (i := 3) cs_law_eliminates.nd rfl (.inl rfl)) (pgs_cons (pg_name (i := 4) cs_law_eliminates.nd rfl (.inl rfl)) pgs_nil)))
    (pss_cons (ps_set (i := 5) cs_law_eliminates.nd rfl (.inr rfl) (pe_cal c_law_near hr (by decide) (by rfl) (pa_cons (pv 1) (pa_cons (pv 4) (pa_cons (pe_slice sl_str (pv 2) (po_some (pe_op op_add (pv 3) pe_int)) po_none) pa_nil)))))
    (pss_one (ps_if (pt_cmpR (op_neNilK K (by exact hr.units)) (pe_lc (own := [("_law_one", 6)]) rfl cs_law_eliminates.nd (pi_str (pv 5)) (blkOk_by (by kernel_rfl)) (fun _ _ _ _ _ => (pg_name (i := 6) cs_law_eliminates.nd rfl (by first | exact Or.inl rfl | exact Or.inr rfl))) (fun _ _ _ _ _ => (pts_one (pt_cmpR op_lt (pe_callB cr_wLenT (by rfl) g.b_len bt_len (pa_cons (pe_cal c_law_near hr (by decide) (by rfl) (pa_cons (pv 1) (pa_cons (pv 6) (pa_cons (pv 5) pa_nil)))) pa_nil)) (pe_op op_sub (pe_callB cr_wLenT (by rfl) g.b_len bt_len (pa_cons (pv 5) pa_nil)) pe_int) (by rfl)))) (fun _ _ _ _ _ => (pv 6))) (pe_lst pa_nil) (by rfl)) (pss_one (ps_ret pe_bl)) pss_nil))))
    (pss_one (ps_ret pe_bl)))), ?_⟩
    refine q_when (et_test (ev_op (ev_joinC ev_c (ev_sortT (ev_var rfl) hz) (by rw [isort_len]; omega)) (ev_var rfl) (rv_neT (a := isort z) (b := L)))) (fun hb H1 e1 => ?_) (fun hb H1 e1 => ?_)
    · refine s_ret (v := .bl false) ev_c fun H2 e2 => ?_
      have e : lElim L C z = false := by
        unfold lElim
        rw [Bool.not_eq_true'] at hb
        rw [hb, Bool.false_and]
      rw [e] at q
      exact q H2 (e1.trans e2)
    · have hL : decide (isort z = L) = true := by
        cases hd : decide (isort z = L) with
        | true => rfl
        | false => rw [hd] at hb; cases hb
      refine q_for0 (as := z.zipIdx) (ew_pair (f := fun p => (.int (p.2 : Nat), v1 p.1)) (ei_enumS (ev_var rfl))) (fun i σ => (∃ y3 y4 y5 y6, σ = [some (vS L), some (.ref t), some (vS z), y3, y4, y5, y6]) ∧ (z.zipIdx.take i).all (fun p => lFirst C p.1 (z.drop (p.2 + 1))) = true) ⟨⟨_, _, _, _, rfl⟩, rfl⟩ (fun i p σ' H' hi hσ e N k => ?_) (fun σ' H' hσ e => ?_)
      · obtain ⟨⟨y3, y4, y5, y6, rfl⟩, hall⟩ := hσ
        have htH := ex_t (e1.trans e) ht
        have hl := lNear_len (C := C) (a := p.1) (o := z.drop (p.2 + 1))
        rw [List.length_drop] at hl
        refine q_asg (v := vS (lNear C p.1 (z.drop (p.2 + 1)))) (ev_cal (ea_cons (ev_var rfl) (ea_cons (ev_var rfl) (ea_cons (ev_sl (ev_var rfl) (eo_some (ev_is (ev_op (ev_var rfl) ev_c rv_I0) (by show V.int _ = V.int ((p.2 + 1 : Nat) : Int); rfl))) eo_none (by omega) (cut_from z (p.2 + 1))) ea_nil))) fun H3 e3 Q q E => ⟨t, C, p.1, z.drop (p.2 + 1), rfl, ex_t e3 htH, by rw [List.length_drop]; omega, q⟩) fun H2 e2 => ?_
        refine s_when (b := !lFirst C p.1 (z.drop (p.2 + 1))) ?_ (fun hb2 H3 e3 => ?_) (fun hb2 H3 e3 => ?_)
        · refine et_is (et_test (ev_neNil (el_lcC (as := lNear C p.1 (z.drop (p.2 + 1))) (fun c => decide ((lNear C c (lNear C p.1 (z.drop (p.2 + 1)))).length + 1 < (lNear C p.1 (z.drop (p.2 + 1))).length)) (ew_name (ei_str (ev_var rfl))) (slen (by omega)) (fun _ _ => rfl) (fun c _ H3 e3 => ?_) fun c _ _ H1 _ => ev_var rfl) el_nil)) (by rw [isE_map]; rfl)
          have hl2 := lNear_len (C := C) (a := c) (o := lNear C p.1 (z.drop (p.2 + 1)))
          exact et_is (et_test (ev_op (ev_lenT (ev_cal (ea_cons (ev_var rfl) (ea_cons (ev_var rfl) (ea_cons (ev_var rfl) ea_nil))) fun H4 e4 Q q E => ⟨t, C, c, lNear C p.1 (z.drop (p.2 + 1)), rfl, ex_t (e2.trans (e3.trans e4)) htH, by omega, q⟩) (by omega)) (ev_op (ev_lenT (ev_var rfl) (by omega)) ev_c rv_I0) rv_I0)) dec_lt1
        · refine s_ret (v := .bl false) ev_c fun H4 e4 => ?_
          have e0 : lElim L C z = false := by
            unfold lElim
            rw [hL, Bool.true_and, List.all_eq_false]
            exact ⟨p, List.mem_of_getElem? hi, by rw [Bool.not_eq_true'] at hb2; rw [hb2]; exact Bool.noConfusion⟩
          rw [e0] at q
          exact q H4 (e1.trans (e.trans (e2.trans (e3.trans e4))))
        · refine k _ _ ⟨⟨_, _, _, _, rfl⟩, ?_⟩ (e2.trans e3)
          rw [List.take_add_one, hi, List.all_append, hall]
          cases hf : lFirst C p.1 (z.drop (p.2 + 1)) with
          | true => simp [hf]
          | false => rw [hf] at hb2; cases hb2
      · obtain ⟨⟨y3, y4, y5, y6, rfl⟩, hall⟩ := hσ
        rw [List.take_length] at hall
        have e0 : lElim L C z = true := by unfold lElim; rw [hL, hall]; rfl
        rw [e0] at q
        exact s_ret (v := .bl true) ev_c fun H4 e4 => q H4 (e1.trans (e.trans e4))
def spLRings (K : PySem.W.Frag) : Sp := fun vs H Q _ => ∃ (t : Addr) (L : T) (C : List T), vs = [vS L, .ref t] ∧ SqT K H t (C.map vS) ∧ L.length ≤ 9 ∧ L.Nodup ∧ RetL ((lRings L C).map vS) H Q
theorem cal_law_rings (g : Top K mg W) (F : DefX K mg "_law_rings" s_law_rings ["_law_letters", "_law_conflicts_here"]) (c_law_bare_paths : Cal P w K mg base 2 "_law_bare_paths" (spLBare K)) (c_law_clash : Cal P w K mg base 1 "_law_clash" (spClash K)) (c_law_near : Cal P w K mg base 2 "_law_near" (spNear K)) :
    Cal P w K mg base 3 "_law_rings" (spLRings K) :=
  cal_of (k := 2) F cs_law_rings (fun vs H Q E h => by obtain ⟨a, p, n, rfl, _⟩ := h; rfl) fun f cdv A outer s H vs Q E hr h => by
    obtain ⟨t, L, C, rfl, ht, h9, hL, q⟩ := h
    refine ⟨_, (pss_cons (ps_for PassesOwn.never rfl (pi_range2 (by rfl) g.b_range (pa_cons pe_int (pa_cons (pe_op op_add (pe_callB cr_wLenT (by rfl) g.b_len bt_len (pa_cons (pv 0) pa_nil)) pe_int) pa_nil))) (pg_name (i := 2) cs_law_rings.nd rfl (.inl rfl))
    (pss_cons (ps_set (i := 3) cs_law_rings.nd rfl (.inl rfl) (pe_lst pa_nil))
    (pss_cons (ps_for PassesOwn.never rfl (pi_listK K (pe_cal c_law_bare_paths hr (by decide) (by rfl) (pa_cons (pv 0) (pa_cons (pv 1) (pa_cons (pe_op op_sub (pv 2) pe_int) pa_nil))))) (pg_name (i := 4) cs_law_rings.nd rfl (.inr rfl))
    (pss_one (ps_if (pt_cmpR op_eq (pe_ix ix_str (pv 4) pe_int (fun _ _ => rfl)) (pe_callB (cr_minT rfl) (by rfl) g.b_min bt_min (pa_cons (pv 4) pa_nil)) (by rfl)) (pss_cons (ps_setLc (i := 5) (own := [("_law_one", 6)]) rfl cs_law_rings.nd rfl rfl (sw_true rfl rfl rfl (by kernel_rfl)) (pi_str (pv 0)) (blkOk_by (by kernel_rfl)) (fun _ _ _ _ _ => (pg_name (i := 6) cs_law_rings.nd rfl (by first | exact Or.inl rfl | exact Or.inr rfl))) (fun _ _ _ _ _ => (pts_one ((pw_and (pt_cmpR op_wGt (pv 6) (pe_ix ix_str (pv 4) pe_int (fun _ _ => rfl)) (by rfl)) (pw_and1 (pt_cmpR op_wNin (pv 6) (pv 4) (by rfl))))).pt)) (fun _ _ _ _ _ => (pv 6)))
    (pss_cons (ps_setLc (i := 5) (own := [("_law_one", 6)]) rfl cs_law_rings.nd rfl rfl (sw_true rfl rfl rfl (by kernel_rfl)) (pi_listK K (pv 5)) (blkOk_by (by kernel_rfl)) (fun _ _ _ _ _ => (pg_name (i := 6) cs_law_rings.nd rfl (by first | exact Or.inl rfl | exact Or.inr rfl))) (fun _ _ _ _ _ => (pts_one ((pw_and (pt_val (pe_cal c_law_clash hr (by decide) (by rfl) (pa_cons (pv 1) (pa_cons (pv 6) (pa_cons (pe_ix ix_str (pv 4) pe_int (fun _ _ => rfl)) pa_nil))))) (pw_and1 (pt_val (pe_cal c_law_clash hr (by decide) (by rfl) (pa_cons (pv 1) (pa_cons (pv 6) (pa_cons (pe_ix ix_str (pv 4) (pe_un un_neg pe_int) (fun _ _ => rfl)) pa_nil)))))))).pt)) (fun _ _ _ _ _ => (pv 6)))
    (pss_one (ps_expr (pe_bm PySem.F.plainAttrs_list PySem.F.slot_list_extend PySem.F.type_list_extend mt_extend (pv 3) (pa_cons (pe_lc (own := [("_law_one", 6)]) rfl cs_law_rings.nd (pi_listK K (pv 5)) (blkOk_by (by kernel_rfl)) (fun _ _ _ _ _ => (pg_name (i := 6) cs_law_rings.nd rfl (by first | exact Or.inl rfl | exact Or.inr rfl))) (fun _ _ _ _ _ => (pts_one (pt_cmpR op_eq (pe_cal c_law_near hr (by decide) (by rfl) (pa_cons (pv 1) (pa_cons (pv 6) (pa_cons (pe_slice sl_str (pv 4) (po_some pe_int) (po_some (pe_un un_neg pe_int))) pa_nil)))) pe_str (by rfl)))) (fun _ _ _ _ _ => (pe_op op_wAdd (pv 4) (pv 6)))) pa_nil)))))) pss_nil)))
    (pss_one (ps_if (pt_cmpR (op_neNilK K (by exact hr.units)) (pv 3) (pe_lst pa_nil) (by rfl)) (pss_one (ps_ret (pv 3))) pss_nil)))))
    (pss_one (ps_ret (pe_lst pa_nil)))), ?_⟩
    refine q_forR2 (lo := 4) (n := ((L.length + 1 : Nat) : Int)) (ea_cons ev_c (ea_cons (ev_is (ev_op (ev_lenT (ev_var rfl) (by omega)) ev_c rv_I0) (by show V.int _ = V.int ((L.length + 1 : Nat) : Int); rfl)) ea_nil)) (by omega) (fun i σ H' => ∃ y2 y3 y4 y5 y6, σ = [some (vS L), some (.ref t), y2, y3, y4, y5, y6] ∧ Ex H H' ∧ lRings L C = lRingGo L C (L.length - 3 - i) i)
      (fun H1 e1 => ⟨_, _, _, _, _, rfl, e1, rfl⟩) (fun i σ' H' hi hP => ?_) (fun σ' H' hP => ?_)
    · obtain ⟨y2, y3, y4, y5, y6, rfl, e, hrec⟩ := hP
      have po := lpaths_ok (C := C) hL (i + 2)
      have b4 : (lPaths L C (i + 2)).length ≤ 400000 := dsc_400 h9 (by omega) po.2
      have hrec2 : lRings L C = if lRingsAt L C i = [] then lRingGo L C (L.length - 3 - (i + 1)) (i + 1) else lRingsAt L C i := by
        rw [hrec, show L.length - 3 - i = (L.length - 3 - (i + 1)) + 1 by omega]
        rfl
      refine q_asgL (xs := []) el_nil fun l H2 hl e2 h2 => ?_
      have hlH : H l = none := fresh_back e hl
      refine q_forM (l := l) (H0 := H') (as := lPaths L C (i + 2)) (ew_name (inj := vS) (ei_list (el_cal (ea_cons (ev_var rfl) (ea_cons (ev_var rfl) (ea_cons (ev_is (ev_op (ev_var rfl) ev_c rv_I0) (by show V.int _ = V.int ((i + 2 + 1 : Nat) : Int); congr 1; omega)) ea_nil))) fun H3 e3 Q q E => ⟨t, L, C, i + 2, rfl, ex_t (e.trans e3) ht, h9, hL, by omega, q⟩))) e2 hl (fun j => (((lPaths L C (i + 2)).take j).flatMap (lRing1 L C)).map vS) h2 (fun j σ => ∃ y2 y4 y5 y6, σ = [some (vS L), some (.ref t), y2, some (.ref l), y4, y5, y6]) ⟨_, _, _, _, rfl⟩ (fun j p σ'' H3 hj hσ e3 hl3 N k => ?_) (fun σ'' H3 hσ e3 hl3 => ?_)
      · obtain ⟨y2, y4, y5, y6, rfl⟩ := hσ
        obtain ⟨p1, p2, p3⟩ := po.1 p (List.mem_of_getElem? hj)
        have hne : p ≠ [] := fun z => by rw [z] at p2; cases p2
        have htH := ex_t (e.trans e3) ht
        refine s_when (b := decide (headD p = minT p)) ?_ (fun hb H4 e4 => ?_) (fun hb H4 e4 => ?_)
        · exact et_is (et_test (ev_op (ev_op (ev_var rfl) ev_c (rv_ix (by omega) (atI_first hne))) (ev_minT (ev_var rfl) hne) (rv_eqT (a := [headD p]) (b := [minT p])))) dec_one
        · have hmin := of_decide_eq_true hb
          have l1 : (lEnds1 L p).length ≤ 9 := Nat.le_trans (List.length_filter_le _ _) h9
          have l2 : (lEnds L C p).length ≤ 9 := Nat.le_trans (List.length_filter_le _ _) l1
          refine q_asgL (xs := (lEnds1 L p).map v1) (el_lcC (as := L) (fun c => decide (secD p < c) && !decide (c ∈ p)) (ew_name (ei_str (ev_var rfl))) (slen (by omega)) (fun _ _ => rfl) (fun c _ H5 e5 => ?_) fun c _ _ H5 _ => ev_var rfl) fun q1 H5 hq1 e5 h5 => ?_
          · exact et_and (et_is (et_test (ev_op (ev_var rfl) (ev_op (ev_var rfl) ev_c (rv_ix (by omega) (atI_sec (by omega)))) (rv_gt (a := [c]) (b := [secD p])))) one_lt1) fun _ => et_test (ev_op (ev_var rfl) (ev_var rfl) rv_nin)
          refine q_asgL (xs := (lEnds L C p).map v1) (el_lcC (as := lEnds1 L p) (fun c => clash C c (headD p) && clash C c (lastD p)) (ew_name (ei_listA (ev_var rfl) (sq_of h5))) (slen (by omega)) (fun _ _ => rfl) (fun c _ H6 e6 => ?_) fun c _ _ H6 _ => ev_var rfl) fun q2 H6 hq2 e6 h6 => ?_
          · exact et_and (et_B (ev_cal (ea_cons (ev_var rfl) (ea_cons (ev_var rfl) (ea_cons (ev_op (ev_var rfl) ev_c (rv_ix (by omega) (atI_first hne))) ea_nil))) fun H7 e7 Q q E => ⟨t, C, c, headD p, rfl, ex_t (e4.trans (e5.trans (e6.trans e7))) htH, q⟩)) fun _ =>
              et_B (ev_cal (ea_cons (ev_var rfl) (ea_cons (ev_var rfl) (ea_cons (ev_op (ev_var rfl) (ev_un ev_c ru_neg) (rv_ix (by omega) (atI_end hne))) ea_nil))) fun H7 e7 Q q E => ⟨t, C, c, lastD p, rfl, ex_t (e4.trans (e5.trans (e6.trans e7))) htH, q⟩)
          refine s_ext (l := l) (ys := (lRing1 L C p).map vS) ((e4.trans (e5.trans e6)) l _ hl3) (ev_var rfl) ?_ ?_ fun H7 e7 => k _ _ ⟨_, _, _, _, rfl⟩ ((ExM.of (e4.trans (e5.trans (e6.trans e7)))).trans ExM.upd) ?_
          · unfold lRing1
            rw [if_pos hmin]
            refine el_lcT (as := lEnds L C p) (fun c => decide (lNear C c (p.drop 1).dropLast = [])) (fun c => p ++ [c]) (ew_name (ei_listA (ev_var rfl) (sq_of h6))) (slen (by omega)) (fun _ _ => rfl) (fun c _ H7 e7 => ?_) fun c _ _ H7 _ => ev_op (ev_var rfl) (ev_var rfl) (rv_add (by simp; omega))
            exact et_test (ev_op (ev_cal (ea_cons (ev_var rfl) (ea_cons (ev_var rfl) (ea_cons (ev_sl (ev_var rfl) (eo_some ev_c) (eo_some (ev_un ev_c ru_neg)) (by omega) (cut_mid p)) ea_nil))) fun H8 e8 Q q E => ⟨t, C, c, (p.drop 1).dropLast, rfl, ex_t (e4.trans (e5.trans (e6.trans (e7.trans e8)))) htH, by rw [List.length_dropLast, List.length_drop]; omega, q⟩) ev_c (rv_eqT (b := [])))
          · have n1 := flat_take_len (i := j) (f := lRing1 L C) b4 fun _ _ => Nat.le_trans lRing1_len h9
            have n2 := lRing1_len (L := L) (p := p) (C := C)
            rw [List.length_map, List.length_map]
            have : sizeLine = 16777216 := rfl
            omega
          · show upd H7 l _ l = _
            rw [upd_same, flat_take hj, List.map_append]
        · refine k _ _ ⟨_, _, _, _, rfl⟩ (ExM.of e4) ?_
          have e0 : lRing1 L C p = [] := by unfold lRing1; rw [if_neg (of_decide_eq_false hb)]
          rw [flat_take hj, e0, List.append_nil]
          exact e4 l _ hl3
      · obtain ⟨y2, y4, y5, y6, rfl⟩ := hσ
        rw [List.take_length] at hl3
        have exH3 : Ex H H3 := e.trans (ExM.ex e2 hl e3)
        have hl3 : H3 l = some (.lst ((lRingsAt L C i).map vS)) := hl3
        refine s_when (et_is (et_test (ev_neNilA (ev_var rfl) (sq_of hl3) el_nil)) (by rw [isE_map])) (fun hb H4 e4 => ?_) (fun hb H4 e4 => ?_)
        · rw [if_neg (bl_emp.mp hb)] at hrec2
          rw [← hrec2] at hl3
          exact s_ret (v := .ref l) (ev_var rfl) fun H5 e5 => q l H5 hlH (exH3.trans (e4.trans e5)) ((e4.trans e5) l _ hl3)
        · have hn : lRingsAt L C i = [] := by simpa using hb
          rw [if_pos hn] at hrec2
          exact ⟨_, _, _, _, _, rfl, exH3.trans e4, hrec2⟩
    · obtain ⟨y2, y3, y4, y5, y6, rfl, e, hrec⟩ := hP
      have e0 : (((L.length + 1 : Nat) : Int) - 4).toNat = L.length - 3 := by omega
      rw [e0, Nat.sub_self] at hrec
      have hn : lRings L C = [] := hrec
      rw [hn] at q
      exact s_retL (xs := []) el_nil fun p H2 hp e2 h2 => q p H2 (fresh_back e hp) (e.trans e2) h2
end
end WW

/-! the law's walk: claws, fans -/
namespace WW
open PySem PySem.Spec PyProof.Rows L2 Evl
section
variable {P : Program} {w : World} {K : PySem.W.Frag} {mg : Str → Option Value} {base : Heap} {W : Addr}
theorem cal_law_fans (g : Top K mg W) (F : DefX K mg "_law_fans" s_law_fans ["_law_letters", "_law_conflicts_here"]) (c_law_bare_paths : Cal P w K mg base 2 "_law_bare_paths" (spLBare K)) (c_law_near : Cal P w K mg base 2 "_law_near" (spNear K)) :
    Cal P w K mg base 3 "_law_fans" (fun vs H Q _ => ∃ (t : Addr) (L : T) (C : List T), vs = [vS L, .ref t] ∧ SqT K H t (C.map vS) ∧ L.length ≤ 9 ∧ L.Nodup ∧ RetL ((lFans L C).map vS) H Q) :=
  cal_of (k := 2) F cs_law_fans (fun vs H Q E h => by obtain ⟨a, p, n, rfl, _⟩ := h; rfl) fun f cdv A outer s H vs Q E hr h => by
    obtain ⟨t, L, C, rfl, ht, h9, hL, q⟩ := h
    have po := lpaths_ok (C := C) hL 3
    have b4 : (lPaths L C 3).length ≤ 400000 := dsc_400 h9 (by omega) po.2
    refine ⟨_, (pss_cons (ps_set (i := 2) cs_law_fans.nd rfl (.inl rfl) (pe_lst pa_nil))
    (pss_cons (ps_for PassesOwn.never rfl (pi_listK K (pe_cal c_law_bare_paths hr (by decide) (by rfl) (pa_cons (pv 0) (pa_cons (pv 1) (pa_cons pe_int pa_nil))))) (pg_name (i := 3) cs_law_fans.nd rfl (.inr rfl))
    (pss_one (ps_if (pt_cmpR op_wLt (pe_ix ix_str (pv 3) pe_int (fun _ _ => rfl)) (pe_ix ix_str (pv 3) pe_int (fun _ _ => rfl)) (by rfl)) (pss_one (ps_expr (pe_bm PySem.F.plainAttrs_list PySem.F.slot_list_extend PySem.F.type_list_extend mt_extend (pv 2) (pa_cons (pe_lc (own := [("_law_one", 4)]) rfl cs_law_fans.nd (pi_str (pv 0)) (blkOk_by (by kernel_rfl)) (fun _ _ _ _ _ => (pg_name (i := 4) cs_law_fans.nd rfl (by first | exact Or.inl rfl | exact Or.inr rfl))) (fun _ _ _ _ _ => (pts_one ((pw_and (pt_cmpR op_wNin (pv 4) (pv 3) (by rfl)) (pw_and1 (pt_cmpR op_eq (pe_callB cr_wLenT (by rfl) g.b_len bt_len (pa_cons (pe_cal c_law_near hr (by decide) (by rfl) (pa_cons (pv 1) (pa_cons (pv 4) (pa_cons (pv 3) pa_nil)))) pa_nil)) pe_int (by rfl))))).pt)) (fun _ _ _ _ _ => (pe_op op_wAdd (pv 3) (pv 4)))) pa_nil)))) pss_nil)))
    (pss_one (ps_ret (pv 2))))), ?_⟩
    refine q_asgL (xs := []) el_nil fun l H2 hl e2 h2 => ?_
    refine q_forM (l := l) (H0 := H) (as := lPaths L C 3) (ew_name (inj := vS) (ei_list (el_cal (ea_cons (ev_var rfl) (ea_cons (ev_var rfl) (ea_cons ev_c ea_nil))) fun H3 e3 Q q E => ⟨t, L, C, 3, rfl, ex_t e3 ht, h9, hL, by omega, q⟩))) e2 hl (fun j => (((lPaths L C 3).take j).flatMap (lFan1 L C)).map vS) h2 (fun j σ => ∃ y3 y4, σ = [some (vS L), some (.ref t), some (.ref l), y3, y4]) ⟨_, _, rfl⟩ (fun j p σ'' H3 hj hσ e3 hl3 N k => ?_) (fun σ'' H3 hσ e3 hl3 => ?_)
    · obtain ⟨y3, y4, rfl⟩ := hσ
      obtain ⟨p1, p2, p3⟩ := po.1 p (List.mem_of_getElem? hj)
      have hne : p ≠ [] := fun z => by rw [z] at p2; cases p2
      have h3 : atI p 3 = some (lastD p) := by
        match p, p2 with
        | [a, b, c, d], _ => rfl
      refine s_when (b := decide (headD p < lastD p)) ?_ (fun hb H4 e4 => ?_) (fun hb H4 e4 => ?_)
      · exact et_is (et_test (ev_op (ev_op (ev_var rfl) ev_c (rv_ix (by omega) (atI_first hne))) (ev_op (ev_var rfl) ev_c (rv_ix (by omega) h3)) (rv_lt (a := [headD p]) (b := [lastD p])))) one_lt1
      · refine s_ext (l := l) (ys := (lFan1 L C p).map vS) (e4 l _ hl3) (ev_var rfl) ?_ ?_ fun H7 e7 => k _ _ ⟨_, _, rfl⟩ ((ExM.of (e4.trans e7)).trans ExM.upd) ?_
        · unfold lFan1
          rw [if_pos (of_decide_eq_true hb)]
          refine el_lcT (as := L) (fun c => !decide (c ∈ p) && decide ((lNear C c p).length = 4)) (fun c => p ++ [c]) (ew_name (ei_str (ev_var rfl))) (slen (by omega)) (fun _ _ => rfl) (fun c _ H7 e7 => ?_) fun c _ _ H7 _ => ev_op (ev_var rfl) (ev_var rfl) (rv_add (by simp; omega))
          refine et_and (et_test (ev_op (ev_var rfl) (ev_var rfl) rv_nin)) fun _ => et_is (et_test (ev_op (ev_lenT (ev_cal (ea_cons (ev_var rfl) (ea_cons (ev_var rfl) (ea_cons (ev_var rfl) ea_nil))) fun H8 e8 Q q E => ⟨t, C, c, p, rfl, ex_t (e3.trans (e4.trans (e7.trans e8))) ht, by omega, q⟩) (Nat.le_trans lNear_len (by omega))) ev_c (rv_eq rfl))) ?_
          by_cases h : (lNear C c p).length = 4
          · rw [decide_eq_true h, h]; rfl
          · rw [decide_eq_false h, decide_eq_false]
            intro z
            have := V.int.inj z
            omega
        · have n1 := flat_take_len (i := j) (f := lFan1 L C) b4 fun _ _ => Nat.le_trans lFan1_len h9
          have n2 := lFan1_len (L := L) (p := p) (C := C)
          rw [List.length_map, List.length_map]
          have : sizeLine = 16777216 := rfl
          omega
        · show upd H7 l _ l = _
          rw [upd_same, flat_take hj, List.map_append]
      · refine k _ _ ⟨_, _, rfl⟩ (ExM.of e4) ?_
        have e0 : lFan1 L C p = [] := by unfold lFan1; rw [if_neg (of_decide_eq_false hb)]
        rw [flat_take hj, e0, List.append_nil]
        exact e4 l _ hl3
    · obtain ⟨y3, y4, rfl⟩ := hσ
      rw [List.take_length] at hl3
      exact s_ret (v := .ref l) (ev_var rfl) fun H5 e5 => q l H5 hl ((ExM.ex e2 hl e3).trans e5) (e5 l _ hl3)
theorem lClaw1_len {C : List T} {near : T} {a : Nat} (h : near.length ≤ 9) : (lClaw1 C near a).length ≤ 729 := by
  refine Nat.le_trans (flat_len2 (m := 9) (n := 81) (by simpa using h) fun p _ => ?_) (by decide)
  exact Nat.le_trans (flat_len2 (m := 9) (n := 9) (by rw [List.length_drop]; omega) fun c _ => Nat.le_trans lClaw2_len h) (by decide)
theorem cal_law_claws (g : Top K mg W) (F : DefX K mg "_law_claws" s_law_claws ["_law_letters", "_law_conflicts_here"]) (c_law_clash : Cal P w K mg base 1 "_law_clash" (spClash K)) (c_law_near : Cal P w K mg base 2 "_law_near" (spNear K)) :
    Cal P w K mg base 3 "_law_claws" (fun vs H Q _ => ∃ (t : Addr) (L : T) (C : List T), vs = [vS L, .ref t] ∧ SqT K H t (C.map vS) ∧ L.length ≤ 9 ∧ RetL ((lClaws L C).map vS) H Q) :=
  cal_of (k := 2) F cs_law_claws (fun vs H Q E h => by obtain ⟨a, p, n, rfl, _⟩ := h; rfl) fun f cdv A outer s H vs Q E hr h => by
    obtain ⟨t, L, C, rfl, ht, h9, q⟩ := h
    refine ⟨_, (pss_cons (ps_set (i := 2) cs_law_claws.nd rfl (.inl rfl) (pe_lst pa_nil))
    (pss_cons (ps_for PassesOwn.never rfl (pi_str (pv 0)) (pg_name (i := 3) cs_law_claws.nd rfl (.inr rfl))
    (pss_cons (ps_set (i := 4) cs_law_claws.nd rfl (.inl rfl) (pe_cal c_law_near hr (by decide) (by rfl) (pa_cons (pv 1) (pa_cons (pv 3) (pa_cons (pv 0) pa_nil)))))
    (pss_one (ps_for PassesOwn.never rfl (pi_enumS (by rfl) g.b_enumerate (pa_cons (pv 4) pa_nil)) (pg_tupK K (n := 2) rfl (pgs_cons (pg_name (i := 5) cs_law_claws.nd rfl (.inl rfl)) (pgs_cons (pg_name (i := 6) cs_law_claws.nd rfl (.inr rfl)) pgs_nil)))
    (pss_one (ps_for PassesOwn.never rfl (pi_str (pe_slice sl_str (pv 4) (po_some (pe_op op_add (pv 5) pe_int)) po_none)) (pg_name (i := 7) cs_law_claws.nd rfl (.inr rfl))
    (pss_one (ps_if (pt_not (pt_val (pe_cal c_law_clash hr (by decide) (by rfl) (pa_cons (pv 1) (pa_cons (pv 6) (pa_cons (pv 7) pa_nil)))))) (pss_cons (ps_setLc (i := 8) (own := [("_law_third", 9)]) rfl cs_law_claws.nd rfl rfl (sw_true rfl rfl rfl (by kernel_rfl)) (pi_str (pv 4)) (blkOk_by (by kernel_rfl)) (fun _ _ _ _ _ => (pg_name (i := 9) cs_law_claws.nd rfl (by first | exact Or.inl rfl | exact Or.inr rfl))) (fun _ _ _ _ _ => (pts_one ((pw_and (pt_cmpR op_wGt (pv 9) (pv 7) (by rfl)) (pw_and1 (pt_cmpR op_eq (pe_cal c_law_near hr (by decide) (by rfl) (pa_cons (pv 1) (pa_cons (pv 9) (pa_cons (pe_op op_wAdd (pv 6) (pv 7)) pa_nil)))) pe_str (by rfl))))).pt)) (fun _ _ _ _ _ => (pv 9)))
    (pss_one (ps_expr (pe_bm PySem.F.plainAttrs_list PySem.F.slot_list_extend PySem.F.type_list_extend mt_extend (pv 2) (pa_cons (pe_lc (own := [("_law_third", 9)]) rfl cs_law_claws.nd (pi_listK K (pv 8)) (blkOk_by (by kernel_rfl)) (fun _ _ _ _ _ => (pg_name (i := 9) cs_law_claws.nd rfl (by first | exact Or.inl rfl | exact Or.inr rfl))) (fun _ _ _ _ _ => pts_nil) (fun _ _ _ _ _ => (pe_op op_wAdd (pe_op op_wAdd (pe_op op_wAdd (pv 3) (pv 6)) (pv 7)) (pv 9)))) pa_nil))))) pss_nil))))))))
    (pss_one (ps_ret (pv 2))))), ?_⟩
    refine q_asgL (xs := []) el_nil fun l H2 hl e2 h2 => ?_
    refine q_forM (l := l) (H0 := H) (as := L) (ew_name (inj := v1) (ei_str (ev_var rfl))) e2 hl (fun j => ((L.take j).flatMap fun a => lClaw1 C (lNear C a L) a).map vS) h2 (fun j σ => ∃ y3 y4 y5 y6 y7 y8 y9, σ = [some (vS L), some (.ref t), some (.ref l), y3, y4, y5, y6, y7, y8, y9]) ⟨_, _, _, _, _, _, _, rfl⟩ (fun j a σ' H3 hj hσ e3 hl3 N k => ?_) (fun σ' H3 hσ e3 hl3 => ?_)
    · obtain ⟨y3, y4, y5, y6, y7, y8, y9, rfl⟩ := hσ
      have htH := ex_t e3 ht
      have nl := lNear_len (C := C) (a := a) (o := L)
      have nj := flat_take_len (i := j) (as := L) (f := fun a => lClaw1 C (lNear C a L) a) (n := 9) (m := 729) h9 fun a _ => lClaw1_len (Nat.le_trans lNear_len h9)
      refine q_asg (v := vS (lNear C a L)) (ev_cal (ea_cons (ev_var rfl) (ea_cons (ev_var rfl) (ea_cons (ev_var rfl) ea_nil))) fun H4 e4 Q q E => ⟨t, C, a, L, rfl, ex_t e4 htH, by omega, q⟩) fun H4 e4 => ?_
      generalize hB : ((L.take j).flatMap fun a => lClaw1 C (lNear C a L) a) = B at hl3 nj
      generalize hnr : lNear C a L = near at nl
      have x4 : Ex H H4 := e3.trans e4
      refine s_forM (l := l) (H0 := H) (as := near.zipIdx) (ew_pair (f := fun p => (.int (p.2 : Nat), v1 p.1)) (ei_enumS (ev_var rfl))) x4 hl (fun i => (B ++ (near.zipIdx.take i).flatMap fun p => (near.drop (p.2 + 1)).flatMap fun c => lClaw2 C near a p.1 c).map vS) (by rw [List.take_zero]; show H4 l = some (.lst ((B ++ []).map vS)); rw [List.append_nil]; exact e4 l _ hl3)
        (fun j σ => ∃ y5 y6 y7 y8 y9, σ = [some (vS L), some (.ref t), some (.ref l), some (v1 a), some (vS near), y5, y6, y7, y8, y9]) ⟨_, _, _, _, _, rfl⟩ (fun i p σ' H5 hi hσ e5 hl5 N2 k2 => ?_) (fun σ' H5 hσ e5 hl5 => ?_)
      · obtain ⟨y5, y6, y7, y8, y9, rfl⟩ := hσ
        have ni := flat_take_len (i := i) (as := near.zipIdx) (f := fun p : Nat × Nat => (near.drop (p.2 + 1)).flatMap fun c => lClaw2 C near a p.1 c) (n := 9) (m := 81) (by simp; omega) fun p _ =>
          Nat.le_trans (flat_len2 (m := 9) (n := 9) (by rw [List.length_drop]; omega) fun c _ => Nat.le_trans lClaw2_len (by omega)) (by decide)
        generalize hB2 : B ++ (near.zipIdx.take i).flatMap (fun p => (near.drop (p.2 + 1)).flatMap fun c => lClaw2 C near a p.1 c) = B2 at hl5
        have nB2 : B2.length ≤ 7290 := by rw [← hB2, List.length_append]; omega
        refine s_forM (l := l) (H0 := H) (as := near.drop (p.2 + 1)) (ew_name (inj := v1) (ei_str (ev_sl (ev_var rfl) (eo_some (ev_is (ev_op (ev_var rfl) ev_c rv_I0) (by show V.int _ = V.int ((p.2 + 1 : Nat) : Int); rfl))) eo_none (by omega) (cut_from near (p.2 + 1))))) e5 hl (fun i => (B2 ++ ((near.drop (p.2 + 1)).take i).flatMap fun c => lClaw2 C near a p.1 c).map vS) (by rw [List.take_zero]; show H5 l = some (.lst ((B2 ++ []).map vS)); rw [List.append_nil]; exact hl5)
          (fun j σ => ∃ y7 y8 y9, σ = [some (vS L), some (.ref t), some (.ref l), some (v1 a), some (vS near), some (.int (p.2 : Nat)), some (v1 p.1), y7, y8, y9]) ⟨_, _, _, rfl⟩ (fun m c σ' H6 hm hσ e6 hl6 N3 k3 => ?_) (fun σ' H6 hσ e6 hl6 => ?_)
        · obtain ⟨y7, y8, y9, rfl⟩ := hσ
          have htH6 := ex_t e6 ht
          refine s_when (b := !clash C p.1 c) ?_ (fun hb H7 e7 => ?_) (fun hb H7 e7 => ?_)
          · exact et_not (et_B (ev_cal (ea_cons (ev_var rfl) (ea_cons (ev_var rfl) (ea_cons (ev_var rfl) ea_nil))) fun H8 e8 Q q E => ⟨t, C, p.1, c, rfl, ex_t e8 htH6, q⟩))
          · have hcl : ¬ clash C p.1 c = true := by
              intro z
              rw [z] at hb
              cases hb
            refine q_asgL (xs := (near.filter fun d => decide (c < d) && decide (lNear C d [p.1, c] = [])).map v1) (el_lcC (as := near) (fun d => decide (c < d) && decide (lNear C d [p.1, c] = [])) (ew_name (ei_str (ev_var rfl))) (slen (by omega)) (fun _ _ => rfl) (fun d _ H8 e8 => ?_) fun d _ _ H8 _ => ev_var rfl) fun q1 H8 hq1 e8 h8 => ?_
            · exact et_and (et_is (et_test (ev_op (ev_var rfl) (ev_var rfl) (rv_gt (a := [d]) (b := [c])))) one_lt1) fun _ => et_test (ev_op (ev_cal (ea_cons (ev_var rfl) (ea_cons (ev_var rfl) (ea_cons (ev_op (ev_var rfl) (ev_var rfl) (rv_add (a := [p.1]) (b := [c]) (by simp))) ea_nil))) fun H9 e9 Q q E => ⟨t, C, d, [p.1, c], rfl, ex_t (e7.trans (e8.trans e9)) htH6, by simp, q⟩) ev_c (rv_eqT (b := [])))
            · have l8 : (near.filter fun d => decide (c < d) && decide (lNear C d [p.1, c] = [])).length ≤ 9 := Nat.le_trans (List.length_filter_le _ _) (by omega)
              refine s_ext (l := l) (ys := (lClaw2 C near a p.1 c).map vS) ((e7.trans e8) l _ hl6) (ev_var rfl) ?_ ?_ fun H9 e9 => k3 _ _ ⟨_, _, _, rfl⟩ ((ExM.of (e7.trans (e8.trans e9))).trans ExM.upd) ?_
              · unfold lClaw2 lClaw3
                rw [if_neg hcl]
                refine el_lcTY (as := near.filter fun d => decide (c < d) && decide (lNear C d [p.1, c] = [])) (fun d => [a, p.1, c, d]) (ew_name (ei_listA (ev_var rfl) (sq_of h8))) (slen (by omega)) (fun _ _ => rfl) fun d _ H9 _ => ?_
                exact ev_op (ev_op (ev_op (ev_var rfl) (ev_var rfl) (rv_add (a := [a]) (b := [p.1]) (by simp))) (ev_var rfl) (rv_add (a := [a] ++ [p.1]) (b := [c]) (by simp))) (ev_var rfl) (rv_add (a := [a] ++ [p.1] ++ [c]) (b := [d]) (by simp))
              · have nm := flat_take_len (i := m) (as := near.drop (p.2 + 1)) (f := fun c => lClaw2 C near a p.1 c) (n := 9) (m := 9) (by rw [List.length_drop]; omega) fun c _ => Nat.le_trans lClaw2_len (by omega)
                have n2 := lClaw2_len (C := C) (near := near) (a := a) (b := p.1) (c := c)
                rw [List.length_map, List.length_map, List.length_append]
                have : sizeLine = 16777216 := rfl
                omega
              · show upd H9 l _ l = _
                rw [upd_same, flat_take hm, ← List.append_assoc, List.map_append (l₁ := B2 ++ _)]
          · have hcl : clash C p.1 c = true := by
              cases hd : clash C p.1 c with
              | true => rfl
              | false => rw [hd] at hb; cases hb
            refine k3 _ _ ⟨_, _, _, rfl⟩ (ExM.of e7) ?_
            have e0 : lClaw2 C near a p.1 c = [] := by unfold lClaw2; rw [if_pos hcl]
            rw [flat_take hm, e0, List.append_nil]
            exact e7 l _ hl6
        · obtain ⟨y7, y8, y9, rfl⟩ := hσ
          rw [List.take_length] at hl6
          refine k2 _ _ ⟨_, _, _, _, _, rfl⟩ e6 ?_
          rw [hl6, flat_take hi, ← List.append_assoc, hB2]
      · obtain ⟨y5, y6, y7, y8, y9, rfl⟩ := hσ
        have e0 : (near.zipIdx.take near.zipIdx.length) = near.zipIdx := List.take_length
        rw [e0] at hl5
        refine k _ _ ⟨_, _, _, _, _, _, _, rfl⟩ ((ExM.of e4).trans e5) ?_
        rw [hl5, flat_take hj, hB, hnr]
        rfl
    · obtain ⟨y3, y4, y5, y6, y7, y8, y9, rfl⟩ := hσ
      rw [List.take_length] at hl3
      exact s_ret (v := .ref l) (ev_var rfl) fun H5 e5 => q l H5 hl ((ExM.ex e2 hl e3).trans e5) (e5 l _ hl3)
end
end WW

/-! pairs, ascending lists, webs that may be made: plain Lean -/
namespace WW
/-- pairs of a list, from its head -/
def pairsR : T → List T
  | [] => []
  | a :: r => (r.map fun o => [a, o]) ++ pairsR r
theorem pairs_go : ∀ (r : T) (pre : T), (r.zipIdx pre.length).flatMap (fun p => ((pre ++ r).drop (p.2 + 1)).map fun o => [p.1, o]) = pairsR r
  | [], pre => rfl
  | a :: r, pre => by
    rw [List.zipIdx_cons, List.flatMap_cons]
    have h1 : (pre ++ a :: r).drop (pre.length + 1) = r := by
      rw [show pre ++ a :: r = (pre ++ [a]) ++ r by simp, show pre.length + 1 = (pre ++ [a]).length by simp, List.drop_left]
    have h2 := pairs_go r (pre ++ [a])
    rw [show (pre ++ [a]).length = pre.length + 1 by simp, show (pre ++ [a]) ++ r = pre ++ a :: r by simp] at h2
    rw [h2]
    show ((pre ++ a :: r).drop (pre.length + 1)).map _ ++ _ = _
    rw [h1]
    rfl
theorem pairsOf_eq (L : T) : pairsOf L = pairsR L := by
  have := pairs_go L []
  exact this
theorem pairsR_len : ∀ (L : T), 2 * (pairsR L).length = L.length * (L.length - 1)
  | [] => rfl
  | a :: r => by
    have ih := pairsR_len r
    show 2 * ((r.map fun o => [a, o]) ++ pairsR r).length = _
    rw [List.length_append, List.length_map, List.length_cons, Nat.mul_add, ih]
    cases hr : r.length with
    | zero => rfl
    | succ n =>
      show 2 * (n + 1) + (n + 1) * n = (n + 1 + 1) * (n + 1)
      rw [Nat.add_mul (n + 1) 1, Nat.mul_add (n + 1) n 1]
      omega
theorem pairs_len {L : T} (h : L.length ≤ 9) : (pairsOf L).length ≤ 36 := by
  have := pairsR_len L
  rw [pairsOf_eq]
  have h2 : L.length * (L.length - 1) ≤ 9 * 8 := Nat.mul_le_mul h (by omega)
  omega
theorem mem_pairsR : ∀ {L : T} {c : T}, AscT L → (c ∈ pairsR L ↔ ∃ a b, a ∈ L ∧ b ∈ L ∧ a < b ∧ c = [a, b])
  | [], c, _ => ⟨fun h => (nomatch h), fun ⟨_, _, h, _⟩ => (nomatch h)⟩
  | x :: r, c, h => by
    have h' := List.pairwise_cons.1 h
    have ih := mem_pairsR (L := r) (c := c) h'.2
    show c ∈ (r.map fun o => [x, o]) ++ pairsR r ↔ _
    rw [List.mem_append, List.mem_map, ih]
    constructor
    · rintro (⟨o, ho, rfl⟩ | ⟨a, b, ha, hb, hab, rfl⟩)
      · exact ⟨x, o, .head _, .tail _ ho, h'.1 o ho, rfl⟩
      · exact ⟨a, b, .tail _ ha, .tail _ hb, hab, rfl⟩
    · rintro ⟨a, b, ha, hb, hab, rfl⟩
      rcases List.mem_cons.mp ha with e | ha2
      · rcases List.mem_cons.mp hb with e2 | hb2
        · omega
        · exact .inl ⟨b, hb2, by rw [e]⟩
      · rcases List.mem_cons.mp hb with e2 | hb2
        · have := h'.1 a ha2
          omega
        · exact .inr ⟨a, b, ha2, hb2, hab, rfl⟩
theorem mem_pairs {L : T} {c : T} (h : AscT L) : c ∈ pairsOf L ↔ ∃ a b, a ∈ L ∧ b ∈ L ∧ a < b ∧ c = [a, b] := by rw [pairsOf_eq]; exact mem_pairsR h
/-- strictly ascending texts -/
def AscL (C : List T) : Prop := C.Pairwise (· < ·)
theorem cons_lt2 {a b c d : Nat} (h : a < c ∨ (a = c ∧ b < d)) : ([a, b] : T) < [c, d] := by
  rcases h with h | ⟨rfl, h⟩
  · exact List.cons_lt_cons_iff.mpr (.inl h)
  · exact List.cons_lt_cons_iff.mpr (.inr ⟨rfl, one_ltP.mpr h⟩)
theorem asc_pairsR : ∀ {L : T}, AscT L → AscL (pairsR L)
  | [], _ => .nil
  | x :: r, h => by
    have h' := List.pairwise_cons.1 h
    refine List.pairwise_append.mpr ⟨?_, asc_pairsR h'.2, fun p hp q hq => ?_⟩
    · exact List.pairwise_map.mpr (h'.2.imp fun {a b} hab => cons_lt2 (.inr ⟨rfl, hab⟩))
    · obtain ⟨o, ho, rfl⟩ := List.mem_map.mp hp
      obtain ⟨a, b, ha, hb, hab, rfl⟩ := (mem_pairsR h'.2).mp hq
      exact cons_lt2 (.inl (h'.1 a ha))
theorem asc_pairs {L : T} (h : AscT L) : AscL (pairsOf L) := by rw [pairsOf_eq]; exact asc_pairsR h
theorem ascL_nodup {C : List T} (h : AscL C) : C.Nodup := List.Pairwise.imp (fun {a b} h e => by subst e; exact lex_irrefl _ h) h
theorem zip_asc {α : Type} {r : α → α → Prop} [DecidableRel r] : ∀ {C : List α}, C.Pairwise r → ((C.zip (C.drop 1)).map fun p => decide (r p.1 p.2)).all id = true
  | [], _ => rfl
  | [a], _ => rfl
  | a :: b :: l, h => by
    have h' := List.pairwise_cons.1 h
    have ih := zip_asc (C := b :: l) h'.2
    show (decide (r a b) && (((b :: l).zip ((b :: l).drop 1)).map fun p => decide (r p.1 p.2)).all id) = true
    rw [ih, decide_eq_true (h'.1 b (.head _))]
    rfl
theorem ascL_ok {C : List T} (h : AscL C) : ascL C = true := zip_asc h
theorem ascT_ok {L : T} (h : AscT L) : ascT L = true := by
  unfold ascT
  have := zip_asc (r := fun a b : Nat => a < b) h
  have e : (fun p : Nat × Nat => decide (([p.1] : T) < [p.2])) = fun p => decide (p.1 < p.2) := by
    funext p
    exact one_lt1
  rw [e]
  exact this
theorem isLet_ok {c : Nat} (h1 : 97 ≤ c) (h2 : c ≤ 122) : isLet [c] = true := by
  unfold isLet
  rw [decide_eq_false (p := ([c] : T) < [97]) (fun z => by have := one_ltP.mp z; omega), decide_eq_false (p := ([122] : T) < [c]) (fun z => by have := one_ltP.mp z; omega)]
  rfl
/-- letters of a web of the law -/
structure Lets (L : T) : Prop where
  asc : AscT L
  az : ∀ c ∈ L, 97 ≤ c ∧ c ≤ 122
  le : L.length ≤ 9
theorem Lets.nd {L : T} (h : Lets L) : L.Nodup := asc_nodup h.asc
/-- conflicts of a web of the law -/
structure Conf (L : T) (C : List T) : Prop where
  sub : ∀ c ∈ C, c ∈ pairsOf L
  asc : AscL C
theorem conf_len {L : T} {C : List T} (hL : Lets L) (h : Conf L C) : C.length ≤ 36 := Nat.le_trans (nodup_sub_len (ascL_nodup h.asc) h.sub) (pairs_len hL.le)
theorem good_of {L : T} {C : List T} (hL : Lets L) (h : Conf L C) : Good L C where
  le := hL.le
  asc := by
    unfold areLet
    rw [ascT_ok hL.asc, Bool.and_true, List.all_map, List.all_eq_true]
    exact fun c hc => isLet_ok (hL.az c hc).1 (hL.az c hc).2
  conf := by
    unfold areConf
    rw [ascL_ok h.asc, Bool.and_true, List.all_map, List.all_eq_true]
    exact fun c hc => decide_eq_true (h.sub c hc)
  nd := hL.nd
  cl := by have := conf_len hL h; omega
theorem conf_sub {L : T} {C : List T} (hL : Lets L) (h : C.Sublist (pairsOf L)) : Conf L C := ⟨fun c hc => h.subset hc, (asc_pairs hL.asc).sublist h⟩
/-- sorted, and no item twice -/
theorem asc_of_sorted {C : List T} (hs : C.Pairwise fun a b => ¬ b < a) (hn : C.Nodup) : AscL C :=
  (hs.and hn).imp fun {a b} h => Classical.byContradiction fun z => h.2 (lexT z h.1)
theorem good_nil : Good [] [] := ⟨by decide, rfl, rfl, .nil, by decide⟩
end WW

/-! the law's walk: conflicts, any_letters -/
namespace WW
open PySem PySem.Spec PyProof.Rows L2 Evl
def unV : V → T
  | .str z => z.cps.toList
  | _ => []
theorem unV_vS (t : T) : unV (vS t) = t := by show (S t).cps.toList = t; simp
theorem perm_vS {ys : List V} {ts : List T} (h : ys.Perm (ts.map vS)) : ∃ us : List T, us.Perm ts ∧ ys = us.map vS := by
  refine ⟨ys.map unV, ?_, ?_⟩
  · have h2 := h.map unV
    rw [List.map_map] at h2
    have e : unV ∘ vS = id := by funext x; exact unV_vS x
    rw [e, List.map_id] at h2
    exact h2
  · rw [List.map_map]
    conv => lhs; rw [← List.map_id ys]
    refine List.map_congr_left fun y hy => ?_
    obtain ⟨t, _, rfl⟩ := List.mem_map.mp (h.mem_iff.mp hy)
    show vS t = vS (unV (vS t))
    rw [unV_vS]
theorem r_sorted {K : PySem.W.Frag} {p : Addr} {ts : List T} {H : Hp} {Q : VK} (h : SqL K H p (ts.map vS)) (hl : ts.length < 64) (k : ∀ (us : List T) (q : Addr), us.Perm ts → (us.Pairwise fun a b => ¬ b < a) → H q = none → Q (.ref q) (upd H q (.lst (us.map vS)))) : rSortedS K [.ref p] H Q :=
  ⟨p, ts.map S, rfl, by rw [List.map_map]; exact h, by rw [List.length_map]; exact hl, fun ys q hp hs hq => by
    obtain ⟨us, hu, rfl⟩ := perm_texts hp
    rw [List.map_map]
    exact k us q hu (sorted_pw hs) hq⟩
section
variable {P : Program} {w : World} {K : PySem.W.Frag} {mg : Str → Option Value} {base : Heap} {W : Addr}
def spLConf (K : PySem.W.Frag) : Sp := fun vs H Q _ => ∃ (l : Addr) (L : T), vs = [.ref l, vS L] ∧ Dice H l ∧ Lets L ∧ ∀ (C : List T) (q : Addr) (H' : Hp), Conf L C → H q = none → ExM l H H' → Dice H' l → H' q = some (.tup (C.map vS)) → Q (.ref q) H'
theorem dice_ne {H H' : Hp} {l p : Addr} (d : Dice H l) (h : H p = none) : p ≠ l := fun z => by
  obtain ⟨a, b, c, hl⟩ := d
  rw [z, hl] at h
  cases h
theorem dice_upd {H : Hp} {l p : Addr} {o : HO} (d : Dice H l) (h : H p = none) : Dice (upd H p o) l := by
  have hp := dice_ne (H' := H) d h
  obtain ⟨a, b, c, hl⟩ := d
  exact ⟨a, b, c, by rw [upd_ne hp.symm]; exact hl⟩
theorem cal_law_conflicts (g : Top K mg W) (F : DefX K mg "_law_conflicts" s_law_conflicts ["_law_dice_here", "_law_letters"]) (c_law_pairs : Cal P w K mg base 1 "_law_pairs" spPairsOf) (c_law_roll : Cal P w K mg base 1 "_law_roll" (spRoll ())) (c_law_some : Cal P w K mg base 2 "_law_some" (spSome K)) (c_law_mixed : Cal P w K mg base 2 "_law_mixed" (spMixed K)) :
    Cal P w K mg base 3 "_law_conflicts" (spLConf K) :=
  cal_of (k := 2) F cs_law_conflicts (fun vs H Q E h => by obtain ⟨a, p, rfl, _⟩ := h; rfl) fun f cdv A outer s H vs Q E hr h => by
    obtain ⟨l, L, rfl, hd, hL, q⟩ := h
    have h36 := pairs_len hL.le
    have fin : ∀ (C : List T) (t : Addr) (H4 : Hp), Conf L C → ExM l H H4 → Dice H4 l → H4 t = none → Q (.ref t) (upd H4 t (.tup (C.map vS))) := fun C t H4 hC e4 d4 ht => by
      have hn : H t = none := none_exM e4 (dice_ne (H' := H4) d4 ht) ht
      exact q C t _ hC hn (exM_upd e4 hn) (dice_upd d4 ht) upd_same
    refine ⟨_, (pss_cons (ps_set (i := 2) cs_law_conflicts.nd rfl (.inl rfl) (pe_cal c_law_pairs hr (by decide) (by rfl) (pa_cons (pv 1) pa_nil)))
    (pss_cons (ps_set (i := 3) cs_law_conflicts.nd rfl (.inl rfl) (pe_cal c_law_roll hr (by decide) (by rfl) (pa_cons (pv 0) (pa_cons pe_int pa_nil))))
    (pss_cons (ps_if (pt_cmpR op_eq (pv 3) pe_int (by rfl)) (pss_one (ps_ret (pe_callTy (cr_tupleK K) (by rfl) g.b_tuple bt_tuple (pa_cons (pe_cal c_law_some hr (by decide) (by rfl) (pa_cons (pv 0) (pa_cons (pv 2) pa_nil))) pa_nil)))) pss_nil)
    (pss_cons (ps_if (pt_cmpR op_eq (pv 3) pe_int (by rfl)) (pss_one (ps_ret (pe_callTy (cr_tupleK K) (by rfl) g.b_tuple bt_tuple (pa_cons (pe_lc (own := [("_law_pair", 6)]) rfl cs_law_conflicts.nd (pi_listK K (pv 2)) (blkOk_by (by kernel_rfl)) (fun _ _ _ _ _ => (pg_name (i := 6) cs_law_conflicts.nd rfl (by first | exact Or.inl rfl | exact Or.inr rfl))) (fun _ _ _ _ _ => (pts_one (pt_cmpR op_gt (pe_cal c_law_roll hr (by decide) (by rfl) (pa_cons (pv 0) (pa_cons pe_int pa_nil))) pe_int (by rfl)))) (fun _ _ _ _ _ => (pv 6))) pa_nil)))) pss_nil)
    (pss_cons (ps_if (pt_cmpR op_lt (pe_callB (cr_lenK K) (by rfl) g.b_len bt_len (pa_cons (pv 2) pa_nil)) pe_int (by rfl)) (pss_one (ps_ret (pe_callTy (cr_tupleK K) (by rfl) g.b_tuple bt_tuple (pa_cons (pv 2) pa_nil)))) pss_nil)
    (pss_cons (ps_set (i := 4) cs_law_conflicts.nd rfl (.inl rfl) (pe_cal c_law_mixed hr (by decide) (by rfl) (pa_cons (pv 0) (pa_cons (pv 2) pa_nil))))
    (pss_cons (ps_set (i := 5) cs_law_conflicts.nd rfl (.inl rfl) (pe_op op_add pe_int (pe_cal c_law_roll hr (by decide) (by rfl) (pa_cons (pv 0) (pa_cons (pe_op op_sub (pe_callB (cr_lenK K) (by rfl) g.b_len bt_len (pa_cons (pv 2) pa_nil)) pe_int) pa_nil)))))
    (pss_one (ps_ret (pe_callTy (cr_tupleK K) (by rfl) g.b_tuple bt_tuple (pa_cons (pe_callB (cr_sortedK K) (by rfl) g.b_sorted bt_sorted (pa_cons (pe_slice (sl_listK K) (pv 4) po_none (po_some (pv 5))) pa_nil)) pa_nil))))))))))), ?_⟩
    refine q_asgL (xs := (pairsOf L).map vS) (el_cal (ea_cons (ev_var rfl) ea_nil) fun H2 _ Q q E => ⟨L, rfl, by have := hL.le; omega, q⟩) fun p H1 hp e1 h1 => ?_
    have hpl : p ≠ l := dice_ne (H' := H) hd hp
    refine ⟨.ref l, rfl, l, 8, rfl, by decide, by decide, hd.ex e1, fun r H2 hr e2 d2 => ?_⟩
    have x2 : ExM l H H2 := (ExM.of e1).trans e2
    have h2 := e2 p _ hpl h1
    refine q_when (et_test (ev_op (ev_var rfl) ev_c (rv_eq rfl))) (fun hb H3 e3 => ?_) (fun hb H3 e3 => ?_)
    · refine ⟨.ref l, rfl, .ref p, rfl, l, p, pairsOf L, rfl, d2.ex e3, hpl, sq_of (e3 p _ h2), by omega, fun ys q2 H4 hsub hq2 e4 d4 h4 => ?_⟩
      exact ⟨q2, ys.map vS, rfl, .inl ⟨sq_of h4, fun t ht => fin ys t H4 (conf_sub hL hsub) ((x2.trans (ExM.of e3)).trans e4) d4 ht⟩⟩
    refine q_when (et_test (ev_op (ev_var rfl) ev_c (rv_eq rfl))) (fun hb2 H4 e4 => ?_) (fun hb2 H4 e4 => ?_)
    · have h4 := (e3.trans e4) p _ h2
      have x4 : ExM l H H4 := x2.trans (ExM.of (e3.trans e4))
      show tLc (iList K (tVar 2)) (gName 6) _ (tVar 6) _ _ H4 fun x H1 => rTupleS K [x] H1 Q
      refine lc_roll (l := l) (Hb := delA H4 l) (as := pairsOf L) (f := vS) (st := fun a σ' => σ'.set 6 (some (vS a))) ?h1 delA_self delA_ex (d2.ex (e3.trans e4)) (by omega) ?h5 ?h2 ?h3 fun ys q2 H5 hsub hq2 e5 d5 h5 => ?h4
      case h1 => exact ew_name (inj := vS) (ei_listA (ev_var rfl) (sq_del (sq_of h4) hpl))
      case h2 =>
        refine fun a _ H1 e1 d1 Q k => ⟨.ref l, rfl, l, 3, rfl, by decide, by decide, d1, fun r H2 _ e2 d2 => ?_⟩
        exact ⟨_, _, rfl, rfl, _, rfl, k _ H2 e2 d2⟩
      case h3 => exact fun a _ H1 => ev_var rfl
      case h5 => exact fun _ _ => rfl
      case h4 => exact ⟨q2, ys.map vS, rfl, .inl ⟨sq_of h5, fun t ht => fin ys t H5 (conf_sub hL hsub) (x4.trans e5) d5 ht⟩⟩
    have h4 := (e3.trans e4) p _ h2
    have x4 : ExM l H H4 := x2.trans (ExM.of (e3.trans e4))
    refine q_when (b := decide (((pairsOf L).length : Int) < 2)) (et_is (et_test (ev_op (ev_len (ev_var rfl) (sq_of h4)) ev_c rv_I0)) (by rw [List.length_map])) (fun hb3 H5 e5 => ?_) (fun hb3 H5 e5 => ?_)
    · refine ⟨.ref p, rfl, p, (pairsOf L).map vS, rfl, .inl ⟨sq_of (e5 p _ h4), fun t ht => ?_⟩⟩
      exact fin (pairsOf L) t H5 (conf_sub hL (List.Sublist.refl _)) (x4.trans (ExM.of e5)) (d2.ex (e3.trans (e4.trans e5))) ht
    have hb3 := of_decide_eq_false hb3
    have h5 := e5 p _ h4
    refine ⟨.ref l, rfl, .ref p, rfl, l, p, (pairsOf L).map vS, rfl, d2.ex (e3.trans (e4.trans e5)), hpl, sq_of h5, by rw [List.length_map]; omega, fun ys q2 H6 hperm hq2 e6 d6 h6 => ?_⟩
    have x6 : ExM l H H6 := (x4.trans (ExM.of e5)).trans e6
    have hq2l : q2 ≠ l := dice_ne (H' := H5) (d2.ex (e3.trans (e4.trans e5))) hq2
    obtain ⟨us, hu, rfl⟩ := perm_vS hperm
    have h6p := e6 p _ hpl h5
    refine ⟨.ref l, rfl, ⟨.ref p, rfl, p, _, rfl, .inl (sq_of h6p), ?_⟩⟩
    refine ⟨_, 1, rfl, rfl, l, _, rfl, by rw [List.length_map]; omega, by rw [List.length_map]; omega, d6, fun r2 H7 hr2 e7 d7 => ?_⟩
    refine ⟨1, (r2 : Int), rfl, rfl, ?_⟩
    have h7 := e7 q2 _ hq2l h6
    have x7 := x6.trans e7
    refine ⟨.ref q2, rfl, .int (1 + (r2 : Int)), rfl, 1 + (r2 : Int), rfl, q2, us.map vS, rfl, sq_of h7, fun q3 hq3 => ?_⟩
    have ec : cutV (us.map vS) none (some (1 + (r2 : Int))) = (us.take (1 + r2)).map vS := by
      have := cutV_to (xs := us.map vS) (1 + r2)
      rw [List.map_take]
      exact this
    rw [ec]
    have ul : us.length ≤ 36 := by rw [hu.length_eq]; exact h36
    have hq3l : q3 ≠ l := dice_ne (H' := H7) d7 hq3
    have d8 := dice_upd (o := .lst ((us.take (1 + r2)).map vS)) d7 hq3
    show rSortedS K [.ref q3] _ fun x H1 => rTupleS K [x] H1 Q
    refine r_sorted (ts := us.take (1 + r2)) (sq_of upd_same) (by rw [List.length_take]; omega) fun vs2 q4 hp4 hs4 hq4 => ?_
    have hC : Conf L vs2 := by
      have hsub : ∀ c ∈ vs2, c ∈ pairsOf L := fun c hc => hu.mem_iff.mp (List.mem_of_mem_take (hp4.mem_iff.mp hc))
      have hnd : us.Nodup := hu.nodup_iff.mpr (ascL_nodup (asc_pairs hL.asc))
      exact ⟨hsub, asc_of_sorted hs4 (hp4.nodup_iff.mpr (hnd.sublist (List.take_sublist _ _)))⟩
    refine ⟨q4, vs2.map vS, rfl, .inl ⟨sq_of upd_same, fun t ht => ?_⟩⟩
    have d9 := dice_upd (o := .lst (vs2.map vS)) d8 hq4
    have n3 : H q3 = none := none_exM x7 hq3l hq3
    have x8 := exM_upd (o := .lst ((us.take (1 + r2)).map vS)) x7 n3
    have n4 : H q4 = none := none_exM x8 (dice_ne (H' := upd H7 q3 (.lst ((us.take (1 + r2)).map vS))) d8 hq4) hq4
    exact fin vs2 t _ hC (exM_upd x8 n4) d9 ht
def spAnyL (K : PySem.W.Frag) : Sp := fun vs H Q _ => ∃ l : Addr, vs = [.ref l, .int 0, .int 9] ∧ Dice H l ∧ ∀ (L : T) (H' : Hp), Lets L → ExM l H H' → Dice H' l → Q (vS L) H'
def abc : T := [97, 98, 99, 100, 101, 102, 103, 104, 105, 106, 107, 108, 109, 110, 111, 112, 113, 114, 115, 116, 117, 118, 119, 120, 121, 122]
theorem cal_law_any_letters (g : Top K mg W) (F : DefX K mg "_law_any_letters" s_law_any_letters ["_law_dice_here", "_law_least", "_law_most"]) (c_law_roll : Cal P w K mg base 1 "_law_roll" (spRoll ())) (c_law_mixed : Cal P w K mg base 2 "_law_mixed" (spMixed K)) :
    Cal P w K mg base 3 "_law_any_letters" (spAnyL K) :=
  cal_of (k := 2) F cs_law_any_letters (fun vs H Q E h => by obtain ⟨a, rfl, _⟩ := h; rfl) fun f cdv A outer s H vs Q E hr h => by
    obtain ⟨l, rfl, hd, q⟩ := h
    refine ⟨_, (pss_cons (ps_set (i := 3) cs_law_any_letters.nd rfl (.inl rfl) (pe_op op_add (pv 1) (pe_cal c_law_roll hr (by decide) (by rfl) (pa_cons (pv 0) (pa_cons (pe_op op_add (pe_op op_sub (pv 2) (pv 1)) pe_int) pa_nil)))))
    (pss_one (ps_ret (pe_m1 PySem.F.slot_str_join PySem.F.type_str_join (mt_joinK K) pe_str (pe_callB (cr_sortedK K) (by rfl) g.b_sorted bt_sorted (pa_cons (pe_slice (sl_listK K) (pe_cal c_law_mixed hr (by decide) (by rfl) (pa_cons (pv 0) (pa_cons (pe_callTy (cr_listT rfl) (by rfl) g.b_list bt_list (pa_cons pe_str pa_nil)) pa_nil))) po_none (po_some (pv 3))) pa_nil)))))), ?_⟩
    refine ⟨.int 0, rfl, .ref l, rfl, .int 9, rfl, .int 0, rfl, 9, 0, rfl, rfl, (9 : Int) - 0, 1, rfl, rfl, ?_⟩
    refine ⟨l, (9 : Int) - 0 + 1, rfl, by decide, by decide, hd, fun r H1 hr1 e1 d1 => ⟨0, (r : Int), rfl, rfl, ?_⟩⟩
    have hr9 : r ≤ 9 := by omega
    -- ''.join(sorted(mixed(..)[:total]))
    show tM1 (wJoin K) (tC (vS [])) (tCB (rSortedS K) (tCons (L2.tSl (rSlL K) (tCall (spMixed K) [] E0 (tCons (tVar 0) (tCons (tCB rListT (tCons (tC (vS abc)) tNil)) tNil))) tNoPart (tPart (tVar 3))) tNil)) _ H1 Q
    refine ⟨⟨_, rfl⟩, .ref l, rfl, S abc, rfl, by decide, fun a ha => ?_⟩
    have al : a ≠ l := dice_ne (H' := H1) d1 ha
    have x1 : ExM l H1 (upd H1 a (.lst (signs (S abc)))) := exM_upd (ExM.refl l H1) ha
    refine ⟨l, a, abc.map v1, rfl, dice_upd d1 ha, al, sq_of upd_same, by decide, fun ys b H2 hp hb e2 d2 h2 => ?_⟩
    rw [map_v1] at hp
    obtain ⟨us, hu, rfl⟩ := perm_vS hp
    have bl : b ≠ l := dice_ne (H' := upd H1 a (.lst (signs (S abc)))) (dice_upd d1 ha) hb
    have x2 : ExM l H H2 := (e1.trans x1).trans e2
    refine ⟨.int (0 + (r : Int)), rfl, 0 + (r : Int), rfl, b, us.map vS, rfl, sq_of h2, fun c hc => ?_⟩
    have ec : cutV (us.map vS) none (some (0 + (r : Int))) = (us.take r).map vS := by
      have := cutV_to (xs := us.map vS) r
      rw [List.map_take, Int.zero_add]
      exact this
    rw [ec]
    have d3 := dice_upd (o := .lst ((us.take r).map vS)) d2 hc
    have x3 := exM_upd (o := .lst ((us.take r).map vS)) x2 (none_exM x2 (dice_ne (H' := H2) d2 hc) hc)
    have h3 : (upd H2 c (.lst ((us.take r).map vS))) c = some (.lst ((us.take r).map vS)) := upd_same
    generalize upd H2 c (.lst ((us.take r).map vS)) = H3 at d3 x3 h3 ⊢
    have ul : us.length = 26 := by rw [hu.length_eq]; rfl
    show rSortedS K [.ref c] H3 fun x H1 => wJoin K (vS []) [x] H1 Q
    refine r_sorted (ts := us.take r) (sq_of h3) (by rw [List.length_take]; omega) fun vs2 q4 hp4 hs4 hq4 => ?_
    have hone : ∀ v ∈ vs2, ∃ c ∈ abc, v = [c] := fun v hv => by
      obtain ⟨c, hc, e⟩ := List.mem_map.mp (hu.mem_iff.mp (List.mem_of_mem_take (hp4.mem_iff.mp hv)))
      exact ⟨c, hc, e.symm⟩
    have hvs : vs2 = (vs2.map headD).map fun c => [c] := by
      rw [List.map_map]
      conv => lhs; rw [← List.map_id vs2]
      refine List.map_congr_left fun v hv => ?_
      obtain ⟨c, _, rfl⟩ := hone v hv
      rfl
    have hnd : vs2.Nodup := hp4.nodup_iff.mpr ((hu.nodup_iff.mpr (by decide)).sublist (List.take_sublist _ _))
    have hasc := asc_of_sorted hs4 hnd
    have hL : Lets (vs2.map headD) := by
      refine ⟨?_, fun c hc => ?_, ?_⟩
      · rw [hvs] at hasc
        exact (List.pairwise_map.mp hasc).imp fun {a b} h => one_ltP.mp h
      · obtain ⟨v, hv, rfl⟩ := List.mem_map.mp hc
        obtain ⟨c, hc2, rfl⟩ := hone v hv
        have : ∀ c ∈ abc, 97 ≤ c ∧ c ≤ 122 := by decide
        exact this c hc2
      · rw [List.length_map, hp4.length_eq, List.length_take]
        omega
    refine ⟨S [], q4, vs2.map S, rfl, rfl, .inl (sq_of (by rw [List.map_map]; exact upd_same)), ?_, ?_⟩
    · have e1 : ((vs2.map S).map (·.length)).sum = vs2.flatten.length := by rw [List.length_flatten, SX.lens]
      have e2 : (S []).length = 0 := S_len []
      rw [e1, e2, Nat.mul_zero, hvs, flat_ones]
      have := hL.le
      omega
    · rw [SX.join_S, joinL_nil]
      have ef : vs2.flatten = vs2.map headD := by
        conv => lhs; rw [hvs, flat_ones]
      rw [ef]
      have hHn : H q4 = none := none_exM x3 (dice_ne (H' := H3) d3 hq4) hq4
      exact q _ _ hL (exM_upd x3 hHn) (dice_upd d3 hq4)
end
end WW

/-! sets of texts, made from a list, then sorted -/
namespace WW
open PySem PySem.Spec PyProof.Rows L2 Evl PySem.Froz
section
variable {P : Program} {w : World}
/-- the set at a holds the texts l -/
def SetTx (P : Program) (w : World) (h : Heap) (a : Addr) (l : List Str) : Prop :=
  ∃ D : SD, h.get? a = some (sObj "set" D) ∧ TxOk P w D l ∧ Ris D.2.2.place.toList ∧ (w.params.followText "set-order" = true ∨ D.2.2.led = true)
theorem tail_led {ep : Nat} {es : Array (Int × Value)} {t : SetTable} {d : Bool} (hr : Ris t.place.toList) (hl : w.params.followText "set-order" = true ∨ t.led = true) :
    Ris (tailTx ep es t d).2.2.place.toList ∧ (w.params.followText "set-order" = true ∨ (tailTx ep es t d).2.2.led = true) := by
  unfold tailTx
  split
  · exact ⟨relayAll_ris t es _, hl.imp id fun z => (relayAll_led t es _).trans z⟩
  · exact ⟨hr, hl⟩
theorem add_led {h : Int} {v : Value} {D : SD} (hr : Ris D.2.2.place.toList) (hl : w.params.followText "set-order" = true ∨ D.2.2.led = true) :
    Ris (addTx h v D).2.2.place.toList ∧ (w.params.followText "set-order" = true ∨ (addTx h v D).2.2.led = true) := by
  have h1 := layNew_ris D.2.2 D.1 h v hr
  have h2 := layNew_led D.2.2 D.1 h v
  unfold addTx
  refine tail_led ?_ ?_
  · split
    · exact h1
    · exact h1
  · refine hl.imp id fun z => ?_
    split
    · exact h2.trans z
    · exact h2.trans z
variable {s : Shared} {A : Around} {E : Value → Shared → Prop}
/-- a text that is in the set already -/
theorem add_old {a : Addr} {D : SD} {l : List Str} {k : Str} {u : Tok} {Q : Bool → Shared → Prop} (ho : s.heap.get? a = some (sObj "set" D)) (F : TxOk P w D l) (hk : k ∈ l) (hb : l.length < scanBound)
    (h : Q false s) : wpAny (model P w) A (setAddHashed a (.str k u) (hashStr w k)) Q E s := by
  have hz : D.1.size < scanBound := by rw [F.sz]; exact hb
  have hd : (sObj "set" D).data = .set D.1 D.2.1 D.2.2 := rfl
  obtain ⟨e, he, q⟩ := (F.mem k).mp hk
  unfold setAddHashed
  unfold setAddHashedIn
  refine wpAny_holding (wpAny_bind (wpAny_setState_of ho hd F.fit ?_))
  dsimp only
  rw [byScan_of (knd := PySem.strKind P w) (x := Value.str k u) rfl hz F.el]
  simp only [↓reduceIte]
  unfold setAddByScan
  refine wpAny_bind (wpAny_bind (wpAny_rule (wpAny_bind (wpAny_setScan_of (knd := PySem.strKind P w) (k := k) (is_str (P := P) (w := w) k u) ho hd F.fit F.el ?_))))
  cases hf : List.findIdx? (fun e => (PySem.strKind P w).is k e.2) D.1.toList with
  | none =>
    have := List.findIdx?_eq_none_iff.mp hf e he
    rw [q] at this
    cases this
  | some j => exact wpAny_pure (wpAny_pure h)
/-- one text more -/
theorem setTx_add {a : Addr} {l : List Str} {k : Str} {u : Tok} {Q : Bool → Shared → Prop} (R : SetTx P w s.heap a l) (hn : l.Nodup) (hb : l.length + 1 < scanBound)
    (h : ∀ h' b l', Heap.SameBut a s.heap h' → l'.Nodup → l'.length ≤ l.length + 1 → (∀ x, x ∈ l' ↔ x = k ∨ x ∈ l) → SetTx P w h' a l' → Q b { s with heap := h' }) : wpAny (model P w) A (setAddHashed a (.str k u) (hashStr w k)) Q E s := by
  obtain ⟨D, ho, F, hr, hl⟩ := R
  by_cases hk : k ∈ l
  · exact add_old ho F hk (by omega) (h s.heap false l (Heap.SameBut.refl a s.heap) hn (by omega) (fun x => ⟨.inr, fun z => z.elim (fun e => e ▸ hk) id⟩) ⟨D, ho, F, hr, hl⟩)
  · refine add_x ho F hk hb (h _ true (k :: l) (Heap.SameBut.update _ a _) (List.nodup_cons.mpr ⟨hk, hn⟩) (Nat.le_refl _) (fun x => List.mem_cons) ?_)
    have al := add_led (w := w) (h := hashStr w k) (v := .str k u) hr hl
    exact ⟨_, get_upd _ ho rfl, add_ok u F, al.1, al.2⟩
/-- one turn of the loop of set.update -/
theorem update_turn {S0 I : Addr} {R : Result → Shared → Prop} (h : wpAny (model P w) A.in1 (pyNext (.ref I)) (fun r s1 => r.elim (R (.ok (.ret .none)) s1) fun v => wpAny (model P w) A.in1 (setAdd S0 v)
      (fun _ s2 => codeAny (model P w) A (.builtin "set.update.loop" ⟨[.ref S0, .ref I], []⟩) R s2) (fun e s2 => R (.error e) s2) s1) (fun e s1 => R (.error e) s1) s) :
    codeAny (model P w) A (.builtin "set.update.loop" ⟨[.ref S0, .ref I], []⟩) R s := by
  have plain := F.plain_set_update_loop
  refine codeAny_builtin F.entry_set_update_loop (Around.under_plainId plain ⟨[.ref S0, .ref I], []⟩ ▸ wpAny_bind (wpAny_mono h (fun r s1 q => ?_) fun _ _ q => q))
  cases r with
  | none => exact wpAny_pure q
  | some v => exact wpAny_bind (wpAny_holding (wpAny_mono q (fun _ s2 q2 => wpAny_pure ⟨plainId_quiet plain _, q2⟩) fun _ _ q2 => q2))
/-- the loop of set.update over what yields the texts xs: got are those that have come -/
theorem update_texts {I : Addr} {fp wr : List Addr} {G : Array GenState → Array GenState → Prop} {Pv : Nat → Value → Prop} {St : Nat → Shared → Prop} {R : Result → Shared → Prop} {S0 : Addr} {xs : List Str}
    (W : WalksS P w A.in1 I fp wr G xs.length Pv St) (hS : S0 ∉ fp) (hz : xs.length + 1 < scanBound) (hv : ∀ i v, Pv i v → ∃ k t, xs[i]? = some k ∧ v = .str k t)
    (done : ∀ s' l, Moved (S0 :: wr) G s s' → l.Nodup → (∀ x, x ∈ l ↔ x ∈ xs) → SetTx P w s'.heap S0 l → R (.ok (.ret .none)) s') (rest : List Str) :
    ∀ (got : List Str) (s1 : Shared) (l : List Str), got ++ rest = xs → St got.length s1 → Moved (S0 :: wr) G s s1 → l.Nodup → l.length ≤ got.length → (∀ x, x ∈ l ↔ x ∈ got) → SetTx P w s1.heap S0 l →
      codeAny (model P w) A (.builtin "set.update.loop" ⟨[.ref S0, .ref I], []⟩) R s1 := by
  have own : S0 ∉ wr := fun z => hS (W.sub _ z)
  have wide : ∀ {s2 s3 : Shared}, Moved wr G s2 s3 → Moved (S0 :: wr) G s2 s3 := fun m => m.mono fun _ => List.mem_cons_of_mem _
  have carry : ∀ {s2 s3 : Shared} {l : List Str}, Moved wr G s2 s3 → SetTx P w s2.heap S0 l → SetTx P w s3.heap S0 l := fun m T => T.imp fun _ q => ⟨m.heap S0 _ own q.1, q.2⟩
  induction rest with
  | nil =>
    intro got s1 l e st mv nd _ hm T
    obtain rfl : got = xs := (List.append_nil got).symm.trans e
    exact update_turn (W.done s1 _ _ st fun s2 m2 => done s2 l (Moved.trans W.gtrans mv (wide m2)) nd hm (carry m2 T))
  | cons k rest ih =>
    intro got s1 l e st mv nd hl hm T
    have here : xs[got.length]? = some k := by rw [← e, List.getElem?_append_right (Nat.le_refl _), Nat.sub_self]; rfl
    have more : got.length < xs.length := (List.getElem?_eq_some_iff.1 here).1
    refine update_turn (W.item got.length s1 _ _ more st fun v s2 hp st2 m2 => ?_)
    obtain ⟨k', t, hk', rfl⟩ := hv _ v hp
    obtain rfl : k = k' := Option.some.inj (here.symm.trans hk')
    refine wpAny_holding (wpAny_bind ((PySem.strKind P w).pyHash (PySem.strKind_is P w k t) ?_))
    have T2 : SetTx P w s2.heap S0 l := carry m2 T
    refine setTx_add (s := { s2 with toks := s2.toks + 1 }) T2 nd (by omega) fun h' b l' same nd' hl' hm' T' => ?_
    have kept : ∀ {c : Addr} {o : Obj}, c ≠ S0 → s2.heap.get? c = some o → h'.get? c = some o := fun ne q => (same.2 _ ne).trans q
    have st3 := W.frame _ s2 h' (s2.toks + 1) st2 (Nat.le_succ _) fun c hc o q => kept (fun z => hS (z ▸ hc)) q
    refine ih (got ++ [k]) _ l' (by rw [List.append_assoc]; exact e) (by rw [List.length_append]; exact st3) (Moved.trans W.gtrans mv ((wide m2).then_heap (Nat.le_succ _) fun c o hc q => kept (fun z => hc (z ▸ .head _)) q)) nd' (by rw [List.length_append]; exact Nat.le_trans hl' (Nat.succ_le_succ hl)) (fun x => ?_) T'
    rw [hm', hm, List.mem_append, List.mem_singleton, or_comm]
end
end WW

/-! set(list of texts) -/
namespace WW
open PySem PySem.Spec PyProof.Rows L2 Evl PySem.Froz
section
variable {s : Shared} {P : Program} {w : World} {A : Around} {E : Value → Shared → Prop}
/-- a set as it is made -/
abbrev newS (w : World) : Obj := { cls := .type "set", dict := none, data := .set #[] 0 (.fresh 0 0 (!w.params.followText "set-order")) }
theorem setTx_new {h : Heap} {a : Addr} (ho : h.get? a = some (newS w)) : SetTx P w h a [] := by
  refine ⟨(#[], 0, .fresh 0 0 (!w.params.followText "set-order")), ho, TxOk.nil rfl, List.Pairwise.nil, ?_⟩
  exact (Bool.eq_false_or_eq_true (w.params.followText "set-order")).imp id fun z => show (!w.params.followText "set-order") = true by rw [z]; rfl
/-- a built-in type is called: its __new__, then its __init__ -/
theorem type_call {T new init : String} {v : Value} {Q Q1 : Value → Shared → Prop} (t : TypeCalled T new init) (args : checkTypeCall T ⟨[v], []⟩ = pure ()) (hn : codeAny (model P w) A.in1 (.call (.builtin new) ⟨[.type T, v], []⟩) (wants Q1 E) s)
    (hi : ∀ o s1, Q1 o s1 → s1.TypeIs o T ∧ codeAny (model P w) A.in1 (.call (.builtin init) ⟨[o, v], []⟩) (wants (fun r s2 => r = .none ∧ Q o s2) E) s1) : wpAny (model P w) A (call (.type T) [v]) Q E s := by
  refine wpAny_call (codeAny_of_tree (show wpAny _ _ (callAny (.type T) ⟨[v], []⟩) _ _ s from wpAny_pure ⟨Code.quiet_builtin _ (by decide +kernel), codeAny_builtin F.entry_type_call ?_⟩))
  rw [Around.under_plain (weight_type_call_type T [v] []) rfl]
  have ⟨_, _, order⟩ := t.mro
  have := t.made
  have := t.sub
  have := t.notType
  have := t.canCreate
  repeat any_goals first | assumption | wp_step
  refine codeAny_mono hn fun r s1 q => ?_
  rcases r with e | fl
  · exact q
  cases fl
  all_goals try exact False.elim q
  rename_i o
  obtain ⟨isT, run⟩ := hi o s1 q
  have := t.init.lookup
  have := t.init.bind o
  repeat any_goals first | assumption | wp_step
  refine codeAny_mono run fun r2 s2 q2 => ?_
  rcases r2 with e | fl
  · exact q2
  cases fl
  all_goals try exact False.elim q2
  rename_i z
  obtain ⟨rfl, q3⟩ := q2
  repeat any_goals first | assumption | wp_step
/-- a set takes the items of a list: the loop is all that counts -/
theorem update_list {id : String} {S l : Addr} {items : Array Value} {Q : Unit → Shared → Prop} (hl : s.heap.IsList l items)
    (loop : codeAny (model P w) A (.builtin "set.update.loop" ⟨[.ref S, .ref s.heap.objs.size], []⟩) (wants (fun _ s2 => Q () s2) E) { s with heap := s.heap.push { cls := .type "list_iterator", data := .fields #[.ref l, .int 0 0] } }) :
    wpAny (model P w) A (Builtin.Frozenset.updateFrom id S (.ref l)) Q E s := by
  have isList : s.TypeIs (.ref l) "list" := hl.imp fun _ q => ⟨q.1, q.2.1⟩
  unfold Builtin.Frozenset.updateFrom Builtin.Frozenset.isAnySet
  refine wpAny_bind (wpAny_bind (wpAny_isInstance isList F.sub_list_set (wpAny_isInstance isList F.sub_list_frozenset ?_)))
  refine wpAny_bind (wpAny_typeOf isList (wpAny_bind (wpAny_pyIter_list hl (wpAny_bind (wpAny_runValue (codeAny_mono loop fun r s2 q => ?_))))))
  rcases r with e | f
  · exact q
  · cases f <;> first | exact wpAny_pure q | exact False.elim q
/-- set.__init__ of a new set and a list -/
theorem set_init {S l : Addr} {items : Array Value} {R : Result → Shared → Prop} (gS : s.heap.get? S = some (newS w)) (hl : s.heap.IsList l items)
    (loop : codeAny (model P w) A.in1 (.builtin "set.update.loop" ⟨[.ref S, .ref s.heap.objs.size], []⟩) (wants (fun _ s2 => R (.ok (.ret .none)) s2) fun e s2 => R (.error e) s2) { s with heap := s.heap.push { cls := .type "list_iterator", data := .fields #[.ref l, .int 0 0] } }) :
    codeAny (model P w) A (.call (.builtin "set.__init__") ⟨[.ref S, .ref l], []⟩) R s := by
  have isSet : s.TypeIs (.ref S) "set" := ⟨_, gS, rfl⟩
  refine codeAny_call_builtin F.called_set.init.plain F.entry_set_init (check_set_init_1 isSet ?_)
  unfold Builtin.«set.__init__»
  unfold noKeywords
  generalize taken : Builtin.Frozenset.updateFrom = U
  wp_walk
  subst taken
  exact update_list hl (codeAny_mono loop fun r s2 q => by
    rcases r with e | f
    · exact q
    · cases f <;> first | exact wpAny_pure q | exact False.elim q)
/-- set of a list of texts -/
theorem call_set_texts {l : Addr} {items : Array Value} {xs : List Str} {Q : Value → Shared → Prop} (hh : A.handled = none) (hl : s.heap.IsList l items) (hi : StrsAre items.toList xs) (hz : xs.length + 1 < scanBound)
    (fin : ∀ (h' : Heap) (tk : Nat) (us : List Str), us.Nodup → (∀ x, x ∈ us ↔ x ∈ xs) → SetTx P w h' s.heap.objs.size us → (∀ b o, s.heap.get? b = some o → h'.get? b = some o) → Q (.ref s.heap.objs.size) { s with heap := h', toks := tk }) :
    wpAny (model P w) A (call (.type "set") [Value.ref l]) Q E s := by
  refine type_call (Q1 := fun o s1 => o = .ref s.heap.objs.size ∧ s1 = { s with heap := s.heap.push (newS w) }) F.called_set (F.typeCall_set_1 _) (code_set_led1 _ ⟨rfl, rfl⟩) fun o s1 q => ?_
  obtain ⟨rfl, rfl⟩ := q
  have gS : (s.heap.push (newS w)).get? s.heap.objs.size = some (newS w) := Heap.get?_push_size _ rfl
  have two : (s.heap.push (newS w)).objs.size = s.heap.objs.size + 1 := Heap.size_push ..
  have low : l < s.heap.objs.size := hl.elim fun _ q => Heap.lt_size q.1
  have apart : s.heap.objs.size ∉ [(s.heap.push (newS w)).objs.size, l] := fun m => by
    rw [List.mem_cons, List.mem_singleton, two] at m
    exact m.elim (Nat.ne_of_lt (Nat.lt_succ_self _)) (Nat.ne_of_gt low)
  have len : items.size = xs.length := Array.length_toList.symm.trans (StrsAre.len_eq hi)
  have read : ∀ (i : Nat) (v : Value), items[i]? = some v → ∃ k t, xs[i]? = some k ∧ v = .str k t := fun i v q => by
    have lt : i < xs.length := len ▸ (Array.getElem?_eq_some_iff.1 q).1
    obtain ⟨t, e⟩ := SS.strs_at hi i v (Array.getElem?_toList.trans q)
    exact ⟨xs[i], t, List.getElem?_eq_getElem lt, by simp [e, lt]⟩
  have walk := (Walks.list (prog := P) (w := w) (A := A.in1.in1.in1) hh (s.heap.push (newS w)).objs.size l (two ▸ Nat.ne_of_lt (Nat.lt_succ_of_lt low)) items).toS
  rw [len] at walk
  refine ⟨⟨_, gS, rfl⟩, set_init gS (hl.push _) (update_texts (s := { s with heap := (s.heap.push (newS w)).push { cls := .type "list_iterator", data := .fields #[.ref l, .int 0 0] } }) walk apart hz read
    (fun s2 us moved nd mem T => ?_) xs [] _ [] rfl ⟨⟨_, Heap.get?_push_size _ rfl, rfl, rfl⟩, (hl.push _).push _⟩ (Moved.refl fun _ => rfl) .nil (Nat.le_refl _) (fun _ => Iff.rfl) (setTx_new (Heap.get?_push_of_some _ gS)))⟩
  have same : s2 = { s with heap := s2.heap, toks := s2.toks } := by
    obtain ⟨_, g2, d2, _, o2⟩ := s2
    cases (show g2 = s.gens from moved.gens)
    cases (show d2 = s.drawn from moved.drawn)
    cases (show o2 = s.os from moved.os)
    rfl
  rw [same]
  refine ⟨rfl, fin _ _ us nd mem T fun b o e => moved.heap b o (fun m => ?_) (Heap.get?_push_of_some _ (Heap.get?_push_of_some _ e))⟩
  have lt := Heap.lt_size e
  rw [List.mem_cons, List.mem_singleton, two] at m
  exact m.elim (Nat.ne_of_lt lt) (Nat.ne_of_lt (Nat.lt_succ_of_lt lt))
end
end WW

/-! sorted(set(texts)) as rules -/
namespace WW
open PySem PySem.Spec PyProof.Rows L2 Evl PySem.Froz
theorem perm_of_sub {α : Type} [DecidableEq α] : ∀ {a b : List α}, a.Nodup → (∀ x ∈ a, x ∈ b) → b.length ≤ a.length → a.Perm b
  | [], b, _, _, h => by rw [List.eq_nil_of_length_eq_zero (Nat.le_zero.mp h)]
  | x :: a, b, hn, hs, h => by
    have hx : x ∈ b := hs x (.head _)
    have hn' := List.nodup_cons.1 hn
    have l1 := List.length_erase_of_mem hx
    have l2 : 0 < b.length := List.length_pos_of_mem hx
    rw [List.length_cons] at h
    exact ((perm_of_sub (a := a) (b := b.erase x) hn'.2 (fun y hy => (List.mem_erase_of_ne (fun (e : y = x) => hn'.1 (by rw [← e]; exact hy))).mpr (hs y (.tail _ hy))) (by omega)).cons x).trans (List.perm_cons_erase hx).symm
section
variable {s : Shared} {P : Program} {w : World} {A : Around} {E : Value → Shared → Prop}
def txtOf : Value → Str
  | .str z _ => z
  | _ => Str.empty
theorem strs_map : ∀ {us : List Value}, (∀ u ∈ us, ∃ z t, u = Value.str z t) → StrsAre us (us.map txtOf)
  | [], _ => .nil
  | u :: us, h => by
    obtain ⟨z, t, rfl⟩ := h u (.head _)
    exact .cons z t (strs_map fun v hv => h v (.tail _ hv))
theorem setTx_collect {a : Addr} {l : List Str} {Q : List Value → Shared → Prop} (hh : A.handled = none) (R : SetTx P w s.heap a l) (hn : l.Nodup) (hz : l.length < scanBound)
    (hQ : ∀ s' out ks, (∀ b o, s.heap.get? b = some o → s'.heap.get? b = some o) → s'.gens = s.gens → s'.os = s.os → StrsAre out ks → ks.Perm l → Q out s') : wpAny (model P w) A (collect (.ref a)) Q E s := by
  obtain ⟨D, ho, F, hr, hl⟩ := R
  refine collect_set (es := D.1) (ep := D.2.1) (t := D.2.2) hh ⟨_, ho, rfl, rfl⟩ F.fit (by rw [F.sz]; exact hz) hr hl fun s' out k _ g o pm => ?_
  have hstr : ∀ u ∈ out, ∃ z t, u = Value.str z t := fun u hu => by
    obtain ⟨e, he, rfl⟩ := List.mem_map.mp (pm.mem_iff.mp hu)
    obtain ⟨⟨z, hz, _⟩, _⟩ := F.el e he
    obtain ⟨t, ht⟩ := Value.isStrOf_shape hz
    exact ⟨z, t, ht⟩
  refine hQ s' out (out.map txtOf) k g o (strs_map hstr) (perm_of_sub hn (fun z hz2 => ?_) ?_).symm
  · obtain ⟨e, he, q⟩ := (F.mem z).mp hz2
    obtain ⟨t, ht⟩ := Value.isStrOf_shape q
    exact List.mem_map.mpr ⟨e.2, pm.mem_iff.mpr (List.mem_map_of_mem he), by rw [ht]; rfl⟩
  · rw [List.length_map, pm.length_eq, List.length_map, Array.length_toList, F.sz]
    exact Nat.le_refl _
end
def SetTxO (P : Program) (w : World) (a : Addr) (l : List Str) : HO := .ext fun h => SetTx P w h a l
def rSetT (K : PySem.W.Frag) (P : Program) (w : World) : List V → Hp → VK → Prop := fun xs H Q => ∃ (p : Addr) (ts : List T), xs = [.ref p] ∧ SqL K H p (ts.map vS) ∧ ts.length ≤ 1000 ∧ ∀ (a : Addr) (us : List T), us.Nodup → (∀ x, x ∈ us ↔ x ∈ ts) → H a = none → Q (.ref a) (upd H a (SetTxO P w a (us.map S)))
def rSortSetT (P : Program) (w : World) : List V → Hp → VK → Prop := fun xs H Q => ∃ (a : Addr) (us : List T), xs = [.ref a] ∧ H a = some (SetTxO P w a (us.map S)) ∧ us.Nodup ∧ us.length < 64 ∧ ∀ (ys : List T) (p : Addr), ys.Perm us → (ys.Pairwise fun a b => ¬ b < a) → H p = none → Q (.ref p) (upd H p (.lst (ys.map vS)))
theorem nodup_S {us : List T} (h : us.Nodup) : (us.map S).Nodup := List.pairwise_map.mpr (h.imp fun {a b} hab e => hab (SX.S_inj e))
section
variable {X : Cx}
theorem cr_setT (hc : X.calm = true) : CallR X (.type "set") (rSetT X.K X.prog X.w) := by
  intro pins s σ H xs us Q; intro I r h
  obtain ⟨p, ts, rfl, hs, hz, q⟩ := h
  obtain ⟨u, ⟨rfl, ru⟩⟩ := vals1 r
  cases ru
  obtain ⟨its, rv, hl, hlen⟩ := I.list hs
  have rv2 : Vals ((ts.map S).map V.str) its := by rw [List.map_map]; exact rv
  have hst := strsAre_vals rv2
  refine call_set_texts (I.ok.hd hc) hl.isList hst (by rw [List.length_map]; show ts.length + 1 < 4096; omega) fun h' tk us nd hm R1 k => ?_
  obtain ⟨us2, e, nd2, hm2⟩ : ∃ us2 : List T, us = us2.map S ∧ us2.Nodup ∧ ∀ x, x ∈ us2 ↔ x ∈ ts := by
    refine ⟨us.map fun y => y.cps.toList, ?_, ?_, fun x => ?_⟩
    · rw [List.map_map]
      conv => lhs; rw [← List.map_id us]
      refine List.map_congr_left fun y hy => ?_
      obtain ⟨t, _, rfl⟩ := List.mem_map.mp ((hm y).mp hy)
      show S t = S (S t).cps.toList
      simp
    · refine List.pairwise_map.mpr (List.Pairwise.imp (fun {a b} (hab : a ≠ b) (e : a.cps.toList = b.cps.toList) => hab ?_) nd)
      cases a
      cases b
      simp at e
      rw [e]
    · refine Iff.intro ?_ ?_
      · intro hx
        obtain ⟨y, hy, rfl⟩ := List.mem_map.1 hx
        obtain ⟨t, ht, rfl⟩ := List.mem_map.mp ((hm y).mp hy)
        show (S t).cps.toList ∈ ts
        have e : (S t).cps.toList = t := by simp
        rw [e]
        exact ht
      · intro hx
        exact List.mem_map.mpr ⟨S x, (hm _).mpr (List.mem_map_of_mem hx), by simp⟩
  subst e
  have hn := I.hok.fresh (a := s.heap.objs.size) (Nat.le_refl _)
  refine ⟨.ref s.heap.objs.size, _, I.laid (t' := tk) k (Nat.le_refl _) ?_, rfl, q _ us2 nd2 hm2 hn⟩
  refine ⟨R1, ?_, fun h1 h2 T1 k2 => ?_⟩
  · obtain ⟨D, ho, _⟩ := R1
    exact ⟨_, ho⟩
  · obtain ⟨D, ho, r⟩ := T1
    exact ⟨D, k2 _ ho, r⟩
theorem cr_sortSetT (hc : X.calm = true) : CallR X (.builtin "sorted") (rSortSetT X.prog X.w) := by
  intro pins s σ H xs us Q; intro I r h
  obtain ⟨a, ks, rfl, ha, nd, h64, q⟩ := h
  obtain ⟨u, ⟨rfl, ru⟩⟩ := vals1 r
  cases ru
  obtain ⟨R1, _, _⟩ := I.hok a _ ha
  have lk : (ks.map S).length < 64 := by rw [List.length_map]; exact h64
  refine sorted_gathered I (ks := ks.map S) lk (fun R hR => ?_) fun ys p hp hs hn => ?_
  · refine setTx_collect (A := X.A.in1) (I.ok.hd hc) R1 (nodup_S nd) (by show _ < 4096; omega) fun s' out ks' k g o hS hpm => ?_
    obtain ⟨hp, gg, d, tk, os⟩ := s'
    have ho : os = s.os := o
    subst ho
    exact hR hp tk gg d out ks' k g hpm hS
  · obtain ⟨us, hu, rfl⟩ := perm_texts hp
    rw [List.map_map]
    exact q us p hu (sorted_pw hs) hn
end
end WW

/-! what the drawn conflicts are: plain Lean -/
namespace WW
def mm (a b : Nat) : T := [min a b, max a b]
theorem mm_comm (a b : Nat) : mm a b = mm b a := by unfold mm; rw [Nat.min_comm, Nat.max_comm]
theorem mm_inj {a b c d : Nat} (h : mm a b = mm c d) : (a = c ∧ b = d) ∨ (a = d ∧ b = c) := by
  unfold mm at h
  have h1 : min a b = min c d := (List.cons.inj h).1
  have h2 : max a b = max c d := (List.cons.inj (List.cons.inj h).2).1
  omega
/-- the i-th letter of an order -/
def atO (o : T) (i : Nat) : Nat := o.getD i 0
theorem atO_eq {o : T} {i : Nat} (h : i < o.length) : atO o i = o[i] := by
  unfold atO
  rw [List.getD_eq_getElem?_getD, List.getElem?_eq_getElem h]
  rfl
theorem atO_mem {o : T} {i : Nat} (h : i < o.length) : atO o i ∈ o := by rw [atO_eq h]; exact List.getElem_mem h
theorem atO_inj {o : T} (hn : o.Nodup) {i j : Nat} (hi : i < o.length) (hj : j < o.length) (h : atO o i = atO o j) : i = j := by
  rw [atO_eq hi, atO_eq hj] at h
  exact (List.getElem_inj hn).mp h
def Fok (o : T) (F : List T) : Prop := ∀ c ∈ F, ∃ a b, a ∈ o ∧ b ∈ o ∧ c = mm a b
def Cl (o : T) (k : Nat) (F : List T) : Prop :=
  (∀ c ∈ F, ∃ i j, i < j ∧ j < k ∧ c = mm (atO o i) (atO o j)) ∧
  ∀ m, m < k → ∀ i j, i < m → j < m → i ≠ j → mm (atO o i) (atO o m) ∈ F → mm (atO o j) (atO o m) ∈ F → mm (atO o i) (atO o j) ∈ F
theorem cl_zero {o : T} : Cl o 0 [] := ⟨fun c h => (nomatch h), fun m h => absurd h (Nat.not_lt_zero _)⟩
/-- no pair reaches the k-th -/
theorem cl_none {o : T} {k m : Nat} {F : List T} (hn : o.Nodup) (h : Cl o k F) (hkm : k ≤ m) (hm : m < o.length) {x : Nat} (hx : x < o.length) : mm (atO o x) (atO o m) ∉ F := fun hc => by
  obtain ⟨i, j, hij, hj, e⟩ := h.1 _ hc
  rcases mm_inj e with ⟨_, e2⟩ | ⟨_, e2⟩
  · have := atO_inj hn hm (by omega) e2
    omega
  · have := atO_inj hn hm (by omega) e2
    omega
theorem cl_skip {o : T} {k : Nat} {F : List T} (hn : o.Nodup) (hk : k < o.length) (h : Cl o k F) : Cl o (k + 1) F := by
  refine ⟨fun c hc => ?_, fun m hm i j hi hj hij h1 h2 => ?_⟩
  · obtain ⟨i, j, a, b, e⟩ := h.1 c hc
    exact ⟨i, j, a, by omega, e⟩
  · by_cases e : m = k
    · subst e
      exact absurd h1 (cl_none hn h (Nat.le_refl _) hk (by omega))
    · exact h.2 m (by omega) i j hi hj hij h1 h2
theorem cl_step {o : T} {k sp : Nat} {F : List T} {ys : T} (hn : o.Nodup) (hk : k < o.length) (hs : sp < k) (h : Cl o k F) (hy : ∀ y ∈ ys, ∃ i, i < sp ∧ y = atO o i ∧ mm y (atO o sp) ∈ F) :
    Cl o (k + 1) (F ++ (ys ++ [atO o sp]).map fun y => mm (atO o k) y) := by
  -- what is new
  have new : ∀ c ∈ (ys ++ [atO o sp]).map (fun y => mm (atO o k) y), ∃ i, i ≤ sp ∧ c = mm (atO o i) (atO o k) ∧ (i = sp ∨ mm (atO o i) (atO o sp) ∈ F) := fun c hc => by
    obtain ⟨y, hy2, rfl⟩ := List.mem_map.mp hc
    rcases List.mem_append.mp hy2 with hy3 | hy3
    · obtain ⟨i, hi, rfl, hf⟩ := hy y hy3
      exact ⟨i, by omega, mm_comm _ _, .inr hf⟩
    · rw [List.mem_singleton] at hy3
      subst hy3
      exact ⟨sp, Nat.le_refl _, mm_comm _ _, .inl rfl⟩
  have back : ∀ {a b : Nat}, a < k → b < k → mm (atO o a) (atO o b) ∈ F ++ (ys ++ [atO o sp]).map (fun y => mm (atO o k) y) → mm (atO o a) (atO o b) ∈ F := fun {a b} ha hb hc => by
    rcases List.mem_append.1 hc with hc | hc
    · exact hc
    · obtain ⟨i, hi, e, _⟩ := new _ hc
      rcases mm_inj e with ⟨_, e2⟩ | ⟨e2, _⟩
      · have := atO_inj hn (by omega) hk e2
        omega
      · have := atO_inj hn (by omega) hk e2
        omega
  have toK : ∀ {x : Nat}, x < k → mm (atO o x) (atO o k) ∈ F ++ (ys ++ [atO o sp]).map (fun y => mm (atO o k) y) → x = sp ∨ (x < sp ∧ mm (atO o x) (atO o sp) ∈ F) := fun {x} hx hc => by
    rcases List.mem_append.1 hc with hc | hc
    · exact absurd hc (cl_none hn h (Nat.le_refl _) hk (by omega))
    · obtain ⟨i, hi, e, hf⟩ := new _ hc
      have ex : x = i := by
        rcases mm_inj e with ⟨e2, _⟩ | ⟨e2, _⟩
        · exact atO_inj hn (by omega) (by omega) e2
        · have := atO_inj hn (show x < o.length by omega) hk e2
          omega
      subst ex
      rcases hf with hf | hf
      · exact .inl hf
      · by_cases e3 : x = sp
        · exact .inl e3
        · exact .inr ⟨by omega, hf⟩
  refine ⟨fun c hc => ?_, fun m hm i j hi hj hij h1 h2 => ?_⟩
  · rcases List.mem_append.mp hc with hc | hc
    · obtain ⟨i, j, a, b, e⟩ := h.1 c hc
      exact ⟨i, j, a, by omega, e⟩
    · obtain ⟨i, hi, e, _⟩ := new c hc
      exact ⟨i, k, by omega, by omega, e⟩
  · by_cases e : m = k
    · subst e
      have a1 := toK hi h1
      have a2 := toK hj h2
      refine List.mem_append_left _ ?_
      rcases a1 with rfl | ⟨a1, a3⟩
      · rcases a2 with rfl | ⟨a2, a4⟩
        · exact absurd rfl hij
        · rw [mm_comm]
          exact a4
      · rcases a2 with rfl | ⟨a2, a4⟩
        · exact a3
        · exact h.2 sp hs i j a1 a2 hij a3 a4
    · exact List.mem_append_left _ (h.2 m (by omega) i j hi hj hij (back (by omega) (by omega) h1) (back (by omega) (by omega) h2))
/-- an order each of whose letters has pairwise conflicting ones ahead of it -/
def Peo (L : T) (C : List T) : Prop := ∃ o : T, o.Perm L ∧ ∀ m, m < o.length → ∀ i j, i < m → j < m → i ≠ j → mm (atO o i) (atO o m) ∈ C → mm (atO o j) (atO o m) ∈ C → mm (atO o i) (atO o j) ∈ C
def apart (c : T) : Bool := !decide (headD c = secD c)
theorem drawn_sub {L o : T} {F : List T} (hL : Lets L) (ho : o.Perm L) (hF : Fok o F) : ∀ c ∈ F.filter apart, c ∈ pairsOf L := fun c hc => by
  obtain ⟨h1, h2⟩ := List.mem_filter.mp hc
  obtain ⟨a, b, ha, hb, rfl⟩ := hF c h1
  unfold apart at h2
  have hne : min a b ≠ max a b := by
    intro e
    have e2 : headD (mm a b) = secD (mm a b) := e
    rw [decide_eq_true e2] at h2
    cases h2
  refine (mem_pairs hL.asc).mpr ⟨min a b, max a b, ?_, ?_, by omega, rfl⟩
  · rcases Nat.le_total a b with h | h
    · rw [Nat.min_eq_left h]; exact ho.mem_iff.mp ha
    · rw [Nat.min_eq_right h]; exact ho.mem_iff.mp hb
  · rcases Nat.le_total a b with h | h
    · rw [Nat.max_eq_right h]; exact ho.mem_iff.mp hb
    · rw [Nat.max_eq_left h]; exact ho.mem_iff.mp ha
theorem drawn_conf {L o : T} {F C : List T} (hL : Lets L) (ho : o.Perm L) (hF : Fok o F) (hm : ∀ x, x ∈ C ↔ x ∈ F.filter apart) (ha : AscL C) : Conf L C :=
  ⟨fun c hc => drawn_sub hL ho hF c ((hm c).mp hc), ha⟩
theorem drawn_peo {L o : T} {F C : List T} (hL : L.Nodup) (ho : o.Perm L) (hC : Cl o o.length F) (hm : ∀ x, x ∈ C ↔ x ∈ F.filter apart) : Peo L C := by
  have hn : o.Nodup := ho.nodup_iff.mpr hL
  have key : ∀ {i j : Nat}, i < o.length → j < o.length → i ≠ j → (mm (atO o i) (atO o j) ∈ C ↔ mm (atO o i) (atO o j) ∈ F) := fun {i j} hi hj hij => by
    rw [hm, List.mem_filter]
    refine ⟨fun h => h.1, fun h => ⟨h, ?_⟩⟩
    have hne : atO o i ≠ atO o j := fun e => hij (atO_inj hn hi hj e)
    unfold apart
    rw [decide_eq_false]
    · rfl
    · intro e
      have e : min (atO o i) (atO o j) = max (atO o i) (atO o j) := e
      omega
  refine ⟨o, ho, fun m hm i j hi hj hij h1 h2 => ?_⟩
  rw [key (by omega) hm (by omega)] at h1
  rw [key (by omega) hm (by omega)] at h2
  exact (key (by omega) (by omega) hij).mpr (hC.2 m hm i j hi hj hij h1 h2)
end WW

/-! the law's walk: drawn -/
namespace WW
open PySem PySem.Spec PyProof.Rows L2 Evl
/-- all but what M tells stands -/
def ExP (M : Addr → Prop) (H H' : Hp) : Prop := ∀ b o, ¬ M b → H b = some o → H' b = some o
theorem ExP.trans {M : Addr → Prop} {H H1 H2 : Hp} (a : ExP M H H1) (b : ExP M H1 H2) : ExP M H H2 := fun c o hc h => b c o hc (a c o hc h)
theorem ExP.of {M : Addr → Prop} {H H' : Hp} (e : Ex H H') : ExP M H H' := fun b o _ h => e b o h
theorem ExP.ofM {M : Addr → Prop} {H H' : Hp} {l : Addr} (hl : M l) (e : ExM l H H') : ExP M H H' := fun b o hb h => e b o (fun z => hb (z ▸ hl)) h
theorem ExP.upd {M : Addr → Prop} {H H' : Hp} {l : Addr} {o : HO} (hl : M l) (e : ExP M H H') : ExP M H (upd H' l o) := fun b u hb h => by
  rw [upd_ne (fun z => hb (by rw [z]; exact hl))]
  exact e b u hb h
theorem s_forP {α : Type} {wi : TI} {g : TG} {σ : L2.St} {Hb H : Hp} {as : List α} {st : α → L2.St → L2.St} {D : Ends} {tu : TS} {M : Addr → Prop} (h : EvW wi g σ Hb as st) (e0 : Ex Hb H) (hM : ∀ b, M b → Hb b = none ∧ H b ≠ none) (J : Nat → L2.St → Hp → Prop)
    (h0 : ∀ H1, Ex H H1 → J 0 σ H1) (hup : ∀ i σ' H' H'', J i σ' H' → Ex H' H'' → J i σ' H'')
    (hs : ∀ i a σ' H', as[i]? = some a → J i σ' H' → ExP M H H' → ∀ N : L2.St → Hp → Prop, (∀ σ2 H2, J (i + 1) σ2 H2 → ExP M H' H2 → N σ2 H2) → tu { D with nx := N, ct := N, bk := D.nx } (st a σ') H')
    (hd : ∀ σ' H', J as.length σ' H' → ExP M H H' → D.nx σ' H') : tFor wi g tu D σ H :=
  h H e0 _ fun I H1 e1 ⟨G, Y, w, hG, hY⟩ => by
    refine for_it w (fun i σ' H' => J i σ' H' ∧ ExP M H1 H') ⟨h0 H1 e1, fun _ _ _ z => z⟩ (fun i σ' H' _ p => hG H' fun a o ha c => ?_) (fun i x σ' H2 H3 hi p y => ?_) (fun σ' H' p => hd σ' H' p.1 ((ExP.of e1).trans p.2))
    · by_cases hm : M a
      · obtain ⟨z1, z2⟩ := hM a hm
        rcases c with c | c
        · rw [z1] at c; cases c
        · exact absurd c z2
      · exact p.2 a o hm ha
    · have ha : as[i]? = some as[i] := List.getElem?_eq_getElem hi
      refine hY i as[i] x H2 H3 ha y σ' _ fun H4 e4 => ?_
      exact hs i as[i] σ' H4 ha (hup _ _ _ _ p.1 e4) ((ExP.of e1).trans (p.2.trans (ExP.of e4))) _ fun σ2 H5 q1 q2 => ⟨q1, p.2.trans ((ExP.of e4).trans q2)⟩
/-- found.extend([.. for .. in e0]), e0 whatever it does -/
theorem s_extLc {K : PySem.W.Frag} {σ : L2.St} {H : Hp} {D : Ends} {fl : Addr} {xs : List V} {ta te0 te : TE} {g : TG} {vs : List Nat} (Cond : Addr → Hp → Prop) (hl : H fl = some (.lst xs)) (ha : Ev ta σ H (.ref fl))
    (h0 : ∀ H1, Ex H H1 → ∀ Q : VK, (∀ a H2, Cond a H2 → Q (.ref a) H2) → te0 σ H1 Q)
    (hc : ∀ a H1, Cond a H1 → ∃ zs ys xs', H1 a = some (.lst zs) ∧ EvL (tLc (iList K (tC (.ref a))) g tYes te vs) σ H1 ys ∧ H1 fl = some (.lst xs') ∧ xs'.length + ys.length ≤ sizeLine ∧ ∀ H2, Ex H1 H2 → D.nx σ (upd H2 fl (.lst (xs' ++ ys)))) :
    tDrop (tBM K "list" rExtend ta (tCons (tLc (iList K te0) g tYes te vs) tNil)) D σ H :=
  ha H (Ex.refl _) _ fun H1 e1 => ⟨.inl ⟨rfl, xs, sq_of (e1 _ _ hl)⟩, h0 H1 e1 _ fun a H2 c => by
    obtain ⟨zs, ys, xs', h1, hev, h2, hz, k⟩ := hc a H2 c
    show tLc (iList K (tC (.ref a))) g tYes te vs σ H2 (fun x H1 => rExtend (.ref fl) [x] H1 fun x H1 => D.nx σ H1)
    exact hev H2 (Ex.refl _) _ fun p H3 hp e3 h3 => ⟨fl, p, xs', ys, rfl, rfl, e3 _ _ h2, h3, hz, k H3 e3⟩⟩
/-- x = e0, e0 whatever it does -/
theorem q_asgR {σ : L2.St} {H : Hp} {D : Ends} {tz : TS} {te : TE} {i : Nat} (Cond : V → Hp → Prop) (h0 : ∀ Q : VK, (∀ v H1, Cond v H1 → Q v H1) → te σ H Q) (k : ∀ v H1, Cond v H1 → tz D (σ.set i (some v)) H1) : tSeq (tAsg te (gName i)) tz D σ H :=
  h0 _ fun v H1 c => k v H1 c
theorem cut_sub {o : T} {lo hi : Option Int} : ∃ zs : T, zs.Sublist o ∧ cutV (o.map v1) lo hi = zs.map v1 := by
  unfold cutV
  refine ⟨(o.drop _).take _, ?_, by rw [List.map_take, List.map_drop]⟩
  exact (List.take_sublist _ _).trans (List.drop_sublist _ _)
section
variable {P : Program} {w : World} {K : PySem.W.Frag} {mg : Str → Option Value} {base : Heap} {W : Addr}
theorem zipIdx_vs (o : T) : (o.map v1).zipIdx.map (fun q => (V.int (q.2 : Nat), q.1)) = o.zipIdx.map fun q => (V.int (q.2 : Nat), v1 q.1) := by
  rw [List.zipIdx_map, List.map_map]
  rfl
theorem perm_v1 {ys : List V} {L : T} (h : ys.Perm (L.map v1)) : ∃ o : T, o.Perm L ∧ ys = o.map v1 := by
  rw [map_v1] at h
  obtain ⟨us, hu, rfl⟩ := perm_vS h
  refine ⟨us.map headD, ?_, ?_⟩
  · have h2 := hu.map headD
    rw [List.map_map] at h2
    have e : (headD ∘ fun c : Nat => [c]) = id := by funext x; rfl
    rw [e, List.map_id] at h2
    exact h2
  · rw [List.map_map]
    refine List.map_congr_left fun u hu2 => ?_
    obtain ⟨c, _, rfl⟩ := List.mem_map.mp (hu.mem_iff.mp hu2)
    rfl
def spDrawn (K : PySem.W.Frag) : Sp := fun vs H Q _ => ∃ (l : Addr) (L : T) (way : Nat), vs = [.ref l, vS L, .int (way : Int)] ∧ Dice H l ∧ Lets L ∧
  ∀ (C : List T) (q : Addr) (H' : Hp), Conf L C → (way = 1 → 3 ≤ L.length → Peo L C) → H q = none → ExM l H H' → Dice H' l → H' q = some (.tup (C.map vS)) → Q (.ref q) H'
theorem ev_mm {σ : L2.St} {H : Hp} {ta tb : TE} {a b : Nat} (h : Ev ta σ H (v1 a)) (h2 : Ev tb σ H (v1 b)) : Ev (tOp wAdd (tCB rMin2S (tCons ta (tCons tb tNil))) (tCB rMax2S (tCons ta (tCons tb tNil)))) σ H (vS (mm a b)) :=
  ev_op (ev_min2S h h2) (ev_max2S h h2) (rv_add (a := [min a b]) (b := [max a b]) (by simp))
theorem cal_law_drawn (g : Top K mg W) (F : DefX K mg "_law_drawn" s_law_drawn ["_law_dice_here", "_law_letters", "_law_way"]) (c_law_roll : Cal P w K mg base 1 "_law_roll" (spRoll ())) (c_law_some : Cal P w K mg base 2 "_law_some" (spSome K)) (c_law_mixed : Cal P w K mg base 2 "_law_mixed" (spMixed K)) (c_law_conflicts : Cal P w K mg base 3 "_law_conflicts" (spLConf K)) :
    Cal P w K mg base 4 "_law_drawn" (spDrawn K) :=
  cal_of (k := 3) F cs_law_drawn (fun vs H Q E h => by obtain ⟨a, p, n, rfl, _⟩ := h; rfl) fun f cdv A outer s H vs Q E hr h => by
    obtain ⟨l, L, way, rfl, hd, hL, q⟩ := h
    have h9 := hL.le
    refine ⟨_, (pss_cons (ps_asg (pe_tup (pa_cons (pe_cal c_law_mixed hr (by decide) (by rfl) (pa_cons (pv 0) (pa_cons (pe_callTy (cr_listT rfl) (by rfl) g.b_list bt_list (pa_cons (pv 1) pa_nil)) pa_nil))) (pa_cons (pe_lst pa_nil) pa_nil))) (pg_tupK K (n := 2) rfl (pgs_cons (pg_name (i := 3) cs_law_drawn.nd rfl (.inr rfl)) (pgs_cons (pg_name (i := 4) cs_law_drawn.nd rfl (.inr rfl)) pgs_nil))))
    (pss_cons (ps_if ((pw_or (pt_cmpR op_eq (pv 2) pe_int (by rfl)) (pw_or1 (pt_cmpR op_lt (pe_callB cr_wLenT (by rfl) g.b_len bt_len (pa_cons (pv 1) pa_nil)) pe_int (by rfl))))).pt (pss_one (ps_ret (pe_cal c_law_conflicts hr (by decide) (by rfl) (pa_cons (pv 0) (pa_cons (pv 1) pa_nil))))) pss_nil)
    (pss_cons (ps_for PassesOwn.never rfl (pi_enumK K (by rfl) g.b_enumerate (pa_cons (pv 3) pa_nil)) (pg_tupK K (n := 2) rfl (pgs_cons (pg_name (i := 5) cs_law_drawn.nd rfl (.inl rfl)) (pgs_cons (pg_name (i := 6) cs_law_drawn.nd rfl (.inr rfl)) pgs_nil)))
    (pss_cons (ps_if ((pw_and (pt_cmpR op_eq (pv 2) pe_int (by rfl)) (pw_and1 (pt_cmpR op_gt (pv 5) pe_int (by rfl))))).pt (pss_cons (ps_set (i := 7) cs_law_drawn.nd rfl (.inr rfl) (pe_cal c_law_roll hr (by decide) (by rfl) (pa_cons (pv 0) (pa_cons (pv 5) pa_nil))))
    (pss_cons (ps_setLc (i := 8) (own := [("_law_one", 11)]) rfl cs_law_drawn.nd rfl rfl (sw_true rfl rfl rfl (by kernel_rfl)) (pi_listK K (pe_slice (sl_listK K) (pv 3) po_none (po_some (pv 7)))) (blkOk_by (by kernel_rfl)) (fun _ _ _ _ _ => (pg_name (i := 11) cs_law_drawn.nd rfl (by first | exact Or.inl rfl | exact Or.inr rfl))) (fun _ _ _ _ _ => (pts_one (pt_cmpR (op_inK K) (pe_op op_wAdd (pe_callB (cr_min2S rfl) (by rfl) g.b_min bt_min (pa_cons (pv 11) (pa_cons (pe_ix (ix_listK K) (pv 3) (pv 7) (fun _ _ => rfl)) pa_nil))) (pe_callB (cr_max2S rfl) (by rfl) g.b_max bt_max (pa_cons (pv 11) (pa_cons (pe_ix (ix_listK K) (pv 3) (pv 7) (fun _ _ => rfl)) pa_nil)))) (pv 4) (by rfl)))) (fun _ _ _ _ _ => (pv 11)))
    (pss_one (ps_expr (pe_bm PySem.F.plainAttrs_list PySem.F.slot_list_extend PySem.F.type_list_extend mt_extend (pv 4) (pa_cons (pe_lc (own := [("_law_one", 11)]) rfl cs_law_drawn.nd (pi_listK K (pe_op op_cat (pe_cal c_law_some hr (by decide) (by rfl) (pa_cons (pv 0) (pa_cons (pv 8) pa_nil))) (pe_lst (pa_cons (pe_ix (ix_listK K) (pv 3) (pv 7) (fun _ _ => rfl)) pa_nil)))) (blkOk_by (by kernel_rfl)) (fun _ _ _ _ _ => (pg_name (i := 11) cs_law_drawn.nd rfl (by first | exact Or.inl rfl | exact Or.inr rfl))) (fun _ _ _ _ _ => pts_nil) (fun _ _ _ _ _ => (pe_op op_wAdd (pe_callB (cr_min2S rfl) (by rfl) g.b_min bt_min (pa_cons (pv 6) (pa_cons (pv 11) pa_nil))) (pe_callB (cr_max2S rfl) (by rfl) g.b_max bt_max (pa_cons (pv 6) (pa_cons (pv 11) pa_nil)))))) pa_nil)))))) pss_nil)
    (pss_cons (ps_if (pt_cmpR op_eq (pv 2) pe_int (by rfl)) (pss_cons (ps_set (i := 9) cs_law_drawn.nd rfl (.inl rfl) (pe_ifExp ((pw_or (pt_cmpR op_lt (pv 5) pe_int (by rfl)) (pw_or1 (pt_cmpR op_eq (pe_cal c_law_roll hr (by decide) (by rfl) (pa_cons (pv 0) (pa_cons pe_int pa_nil))) pe_int (by rfl))))).pt (pe_ix (ix_listK K) (pv 3) (pe_op op_mod (pe_op op_add (pv 5) pe_int) (pe_callB (cr_lenK K) (by rfl) g.b_len bt_len (pa_cons (pv 3) pa_nil))) (fun _ _ => rfl)) (pe_ix (ix_listK K) (pv 3) pe_int (fun _ _ => rfl))))
    (pss_one (ps_expr (pe_bm PySem.F.plainAttrs_list PySem.F.slot_list_append PySem.F.type_list_append mt_append (pv 4) (pa_cons (pe_op op_wAdd (pe_callB (cr_min2S rfl) (by rfl) g.b_min bt_min (pa_cons (pv 6) (pa_cons (pv 9) pa_nil))) (pe_callB (cr_max2S rfl) (by rfl) g.b_max bt_max (pa_cons (pv 6) (pa_cons (pv 9) pa_nil)))) pa_nil))))) pss_nil)
    (pss_one (ps_if (pt_cmpR op_eq (pv 2) pe_int (by rfl)) (pss_cons (ps_set (i := 10) cs_law_drawn.nd rfl (.inl rfl) (pe_op op_add pe_int (pe_cal c_law_roll hr (by decide) (by rfl) (pa_cons (pv 0) (pa_cons pe_int pa_nil)))))
    (pss_one (ps_expr (pe_bm PySem.F.plainAttrs_list PySem.F.slot_list_extend PySem.F.type_list_extend mt_extend (pv 4) (pa_cons (pe_lc (own := [("_law_one", 11)]) rfl cs_law_drawn.nd (pi_listK K (pe_slice (sl_listK K) (pv 3) (po_some (pe_callB (cr_max2I rfl) (by rfl) g.b_max bt_max (pa_cons pe_int (pa_cons (pe_op op_sub (pv 5) (pv 10)) pa_nil)))) (po_some (pv 5)))) (blkOk_by (by kernel_rfl)) (fun _ _ _ _ _ => (pg_name (i := 11) cs_law_drawn.nd rfl (by first | exact Or.inl rfl | exact Or.inr rfl))) (fun _ _ _ _ _ => pts_nil) (fun _ _ _ _ _ => (pe_op op_wAdd (pe_callB (cr_min2S rfl) (by rfl) g.b_min bt_min (pa_cons (pv 6) (pa_cons (pv 11) pa_nil))) (pe_callB (cr_max2S rfl) (by rfl) g.b_max bt_max (pa_cons (pv 6) (pa_cons (pv 11) pa_nil)))))) pa_nil))))) pss_nil)))))
    (pss_one (ps_ret (pe_callTy (cr_tupleK K) (by rfl) g.b_tuple bt_tuple (pa_cons (pe_callB (cr_sortSetT rfl) (by rfl) g.b_sorted bt_sorted (pa_cons (pe_callTy (cr_setT rfl) (by rfl) g.b_set bt_set (pa_cons (pe_lc (own := [("_law_pair", 12)]) rfl cs_law_drawn.nd (pi_listK K (pv 4)) (blkOk_by (by kernel_rfl)) (fun _ _ _ _ _ => (pg_name (i := 12) cs_law_drawn.nd rfl (by first | exact Or.inl rfl | exact Or.inr rfl))) (fun _ _ _ _ _ => (pts_one (pt_cmpR op_ne (pe_ix ix_str (pv 12) pe_int (fun _ _ => rfl)) (pe_ix ix_str (pv 12) pe_int (fun _ _ => rfl)) (by rfl)))) (fun _ _ _ _ _ => (pv 12))) pa_nil)) pa_nil)) pa_nil))))))), ?_⟩
    -- _law_order, _law_found = (_law_mixed(..), [])
    refine ⟨.ref l, rfl, vS L, rfl, S L, rfl, by rw [S_len]; exact slen (by omega), fun a ha => ?_⟩
    have al : a ≠ l := dice_ne (H' := H) hd ha
    refine ⟨l, a, L.map v1, rfl, dice_upd hd ha, al, sq_of upd_same, by rw [List.length_map]; omega, fun ys p H1 hp hpn e1 d1 h1 => ?_⟩
    obtain ⟨o, ho, rfl⟩ := perm_v1 hp
    have pl : p ≠ l := dice_ne (H' := upd H a (.lst (signs (S L)))) (dice_upd hd ha) hpn
    have x1 : ExM l H H1 := (exM_upd (ExM.refl l H) ha).trans e1
    refine ⟨Nat.zero_le _, fun fl hfl => ?_⟩
    have fll : fl ≠ l := dice_ne (H' := H1) d1 hfl
    refine ⟨by show 2 ≤ sizeLine; decide, fun tt htt => ?_⟩
    refine ⟨tt, [.ref p, .ref fl], rfl, st_of upd_same, rfl, .ref p, [.ref fl], rfl, .ref fl, [], rfl, rfl, ?_⟩
    have hflH : H fl = none := none_exM x1 fll hfl
    have d2 := dice_upd (o := .lst []) d1 hfl
    have httl : tt ≠ l := dice_ne (H' := upd H1 fl (.lst [])) d2 htt
    have d3 := dice_upd (o := .tup [.ref p, .ref fl]) d2 htt
    have x2 := exM_upd (o := .lst []) x1 hflH
    have x3 := exM_upd (o := .tup [.ref p, .ref fl]) x2 (none_exM x2 httl htt)
    have nff : fl ≠ tt := fun z => by rw [← z, upd_same] at htt; cases htt
    have npf : p ≠ fl := fun z => by rw [z, hfl] at h1; cases h1
    have npt : p ≠ tt := fun z => by rw [← z, upd_ne npf, h1] at htt; cases htt
    have f3 : (upd (upd H1 fl (.lst [])) tt (.tup [.ref p, .ref fl])) fl = some (.lst ([] : List V)) := by rw [upd_ne nff, upd_same]
    have p3 : (upd (upd H1 fl (.lst [])) tt (.tup [.ref p, .ref fl])) p = some (.lst (o.map v1)) := by rw [upd_ne npt, upd_ne npf, h1]
    generalize upd (upd H1 fl (.lst [])) tt (.tup [.ref p, .ref fl]) = H3 at d3 x3 f3 p3 ⊢
    have hol : o.length = L.length := ho.length_eq
    have hon : o.Nodup := ho.nodup_iff.mpr hL.nd
    dsimp only
    refine q_when (b := decide (way = 0) || decide (L.length < 3)) ?_ (fun hb H4 e4 => ?_) (fun hb H4 e4 => ?_)
    · refine et_or (et_is (et_test (ev_op (ev_var rfl) ev_c (rv_eq rfl))) ?_) fun _ => et_is (et_test (ev_op (ev_lenT (ev_var rfl) (by omega)) ev_c rv_I0)) ?_
      · by_cases h : way = 0
        · rw [decide_eq_true h, h]; rfl
        · rw [decide_eq_false h, decide_eq_false]
          intro z
          have := V.int.inj z
          omega
      · by_cases h : L.length < 3
        · rw [decide_eq_true h, decide_eq_true]; omega
        · rw [decide_eq_false h, decide_eq_false]; omega
    · refine ⟨.ref l, rfl, vS L, rfl, l, L, rfl, d3.ex e4, hL, fun C t H5 hC ht e5 d5 h5 => ?_⟩
      have x4 : ExM l H H4 := x3.trans (ExM.of e4)
      refine q C t H5 hC (fun hw h3 => ?_) (none_exM x4 (dice_ne (H' := H4) (d3.ex e4) ht) ht) (x4.trans e5) d5 h5
      rw [Bool.or_eq_true, decide_eq_true_eq, decide_eq_true_eq] at hb
      omega
    · rw [Bool.or_eq_false_iff, decide_eq_false_iff_not, decide_eq_false_iff_not] at hb
      have f4 := e4 fl _ f3
      have p4 := e4 p _ p3
      have d4 := d3.ex e4
      have x4 : ExM l H H4 := x3.trans (ExM.of e4)
      let Hb : Hp := fun b => if b = l ∨ b = fl then none else H4 b
      have hbE : Ex Hb H4 := fun b u hu => by
        show H4 b = some u
        have hu : (if b = l ∨ b = fl then none else H4 b) = some u := hu
        split at hu
        · cases hu
        · exact hu
      have hbP : Hb p = some (.lst (o.map v1)) := by
        show (if p = l ∨ p = fl then none else H4 p) = _
        rw [if_neg (fun z => z.elim pl npf)]
        exact p4
      show tSeq (tFor _ _ _) _ _ _ H4
      refine s_forP (M := fun b => b = l ∨ b = fl) (Hb := Hb) (as := o.zipIdx) (st := fun (q : Nat × Nat) σ' => (σ'.set 5 (some (.int (q.2 : Nat)))).set 6 (some (v1 q.1))) ?w hbE (fun b hb2 => ⟨by show (if b = l ∨ b = fl then none else H4 b) = none; rw [if_pos hb2], ?m⟩)
        (fun i σ' H' => (∃ y5 y6 y7 y8 y9 y10 y11 y12, σ' = [some (.ref l), some (vS L), some (.int (way : Int)), some (.ref p), some (.ref fl), y5, y6, y7, y8, y9, y10, y11, y12]) ∧ Dice H' l ∧ ∃ F : List T, H' fl = some (.lst (F.map vS)) ∧ F.length ≤ 30 * i ∧ Fok o F ∧ (way = 1 → Cl o i F)) ?j0 ?up ?step ?fin
      case w =>
        refine ew_pair (f := fun q : Nat × Nat => (.int (q.2 : Nat), v1 q.1)) ?_
        rw [← zipIdx_vs]
        exact ei_enumL (ev_var rfl) (sq_of hbP)
      case m =>
        rcases hb2 with rfl | rfl
        · obtain ⟨a, b, c, hl⟩ := d4
          rw [hl]
          exact fun z => nomatch z
        · rw [f4]
          exact fun z => nomatch z
      case j0 => exact fun H5 e5 => ⟨⟨_, _, _, _, _, _, _, _, rfl⟩, d4.ex e5, [], e5 _ _ f4, Nat.zero_le _, fun c h => (nomatch h), fun _ => cl_zero⟩
      case up => exact fun i σ' H' H'' hj e => ⟨hj.1, hj.2.1.ex e, by obtain ⟨F, a, b⟩ := hj.2.2; exact ⟨F, e _ _ a, b⟩⟩
      case step =>
        intro i q σ' H' hi hJ ex N k
        obtain ⟨⟨y5, y6, y7, y8, y9, y10, y11, y12, rfl⟩, dd, F, hF, lF, okF, clF⟩ := hJ
        obtain ⟨hoi, rfl⟩ := zipIdx_at hi
        have hil : q.2 < o.length := (List.getElem?_eq_some_iff.mp hoi).1
        have hq1 : q.1 = atO o q.2 := by rw [atO_eq hil]; exact (List.getElem?_eq_some_iff.mp hoi).2.symm
        have hp' : H' p = some (.lst (o.map v1)) := ex p _ (fun z => z.elim pl npf) p4
        have q9 : q.2 < 9 := by omega
        have lF2 : F.length ≤ 300 := by omega
        have s16 : sizeLine = 16777216 := rfl
        have dw : ∀ c : Nat, decide (V.int (way : Int) = V.int (c : Int)) = decide (way = c) := fun c => by
          by_cases h : way = c
          · rw [decide_eq_true h, h, decide_eq_true rfl]
          · rw [decide_eq_false h, decide_eq_false]
            intro z
            have := V.int.inj z
            omega
        refine q_when (b := decide (way = 1) && decide (0 < q.2)) ?c1 (fun hb1 H5 e5 => ?p1) (fun hb1 H5 e5 => ?n1)
        case c1 =>
          refine et_and (et_is (et_test (ev_op (ev_var rfl) ev_c (rv_eq rfl))) (dw 1)) fun _ => et_is (et_test (ev_op (ev_var rfl) ev_c rv_I0)) ?_
          by_cases h : 0 < q.2
          · rw [decide_eq_true h, decide_eq_true]; omega
          · rw [decide_eq_false h, decide_eq_false]; omega
        case p1 =>
          rw [Bool.and_eq_true, decide_eq_true_eq, decide_eq_true_eq] at hb1
          have d5 := dd.ex e5
          refine ⟨.ref l, rfl, .int (q.2 : Int), rfl, l, (q.2 : Int), rfl, by omega, by omega, d5, fun r H6 hr6 e6 d6 => ?_⟩
          have hrq : r < q.2 := by omega
          have hro : r < o.length := by omega
          have p6 := e6 p _ pl (e5 p _ hp')
          have f6 := e6 fl _ fll (e5 fl _ hF)
          have hat : atI (o.map v1) (r : Int) = some (v1 (atO o r)) := atI_nat (by rw [List.getElem?_map, List.getElem?_eq_getElem hro, ← atO_eq hro]; rfl)
          have hsl : cutV (o.map v1) none (some (r : Int)) = (o.take r).map v1 := by rw [List.map_take]; exact cutV_to r
          have htl : (o.take r).length ≤ 9 := by rw [List.length_take]; omega
          have lk : ((o.take r).filter fun y => decide (mm y (atO o r) ∈ F)).length ≤ 9 := Nat.le_trans (List.length_filter_le _ _) htl
          dsimp only [gName]
          refine q_asgL (xs := ((o.take r).filter fun y => decide (mm y (atO o r) ∈ F)).map v1) ?_ fun kp H7 hkp e7 h7 => ?_
          · refine el_lcC (as := o.take r) (fun y => decide (mm y (atO o r) ∈ F)) (ew_name (ei_list ?_)) (slen (by omega)) (fun _ _ => rfl) (fun y _ H7 e7 => et_test (ev_op (ev_mm (ev_var rfl) (ev_op (ev_var rfl) (ev_var rfl) (rv_ixA (sq_of (e7 p _ p6)) hat))) (ev_var rfl) (rv_inL (sq_of (e7 fl _ f6))))) fun y _ _ H7 _ => ev_var rfl
            rw [← hsl]
            exact el_sl (ev_var rfl) eo_none (eo_some (ev_var rfl)) (sq_of p6)
          · have d7 := d6.ex e7
            have kpl : kp ≠ l := dice_ne (H' := H6) d6 hkp
            have p7 := e7 p _ p6
            have f7 := e7 fl _ f6
            rw [map_v1] at h7
            refine s_extLc (fl := fl) (fun a H9 => ∃ zs : T, zs.Sublist ((o.take r).filter fun y => decide (mm y (atO o r) ∈ F)) ∧ H9 a = some (.lst ((zs ++ [atO o r]).map v1)) ∧ H9 fl = some (.lst (F.map vS)) ∧ Dice H9 l ∧ ExM l H7 H9) f7 (ev_var rfl) (fun H8 e8 Q hQ => ?h0) (fun a H9 hc => ?hc)
            case h0 =>
              refine ⟨.ref l, rfl, .ref kp, rfl, l, kp, _, rfl, d7.ex e8, kpl, sq_of (e8 _ _ h7), by rw [List.length_map]; omega, fun ys q2 H8' hsub hq2 e8' d8 h8 => ?_⟩
              obtain ⟨zs, hzs, rfl⟩ := List.sublist_map_iff.mp hsub
              have zl : zs.length ≤ 9 := Nat.le_trans hzs.length_le lk
              have p8 := e8' p _ pl (e8 _ _ p7)
              have f8 := e8' fl _ fll (e8 _ _ f7)
              refine ⟨.ref p, rfl, .int (r : Int), rfl, p, o.map v1, (r : Int), v1 (atO o r), rfl, rfl, sq_of p8, hat, by show 1 ≤ sizeLine; decide, fun q3 hq3 => ?_⟩
              have n23 : q2 ≠ q3 := fun z => by rw [← z, h8] at hq3; cases hq3
              refine ⟨q2, q3, _, _, rfl, rfl, by rw [upd_ne n23]; exact h8, upd_same, by rw [List.length_map, List.length_map]; show zs.length + 1 ≤ _; omega, fun q4 hq4 => ?_⟩
              have e9 := (Ex.new (o := .lst [v1 (atO o r)]) hq3).trans (Ex.new (o := .lst ((zs.map fun c => [c]).map vS ++ [v1 (atO o r)])) hq4)
              refine hQ q4 _ ⟨zs, hzs, ?_, e9 _ _ f8, d8.ex e9, (ExM.of e8).trans (e8'.trans (ExM.of e9))⟩
              rw [upd_same, List.map_append, map_v1 zs]
              rfl
            case hc =>
              obtain ⟨zs, hzs, h9, f9, d9, e9⟩ := hc
              have zl : zs.length ≤ 9 := Nat.le_trans hzs.length_le lk
              refine ⟨_, ((zs ++ [atO o r]).map fun y => mm (atO o q.2) y).map vS, _, h9, ?_, f9, by rw [List.length_map, List.length_map, List.length_map, List.length_append]; show _ + (_ + 1) ≤ _; omega, fun H10 e10 => ?_⟩
              · rw [hq1]
                exact el_lcTY (as := zs ++ [atO o r]) (fun y => mm (atO o q.2) y) (ew_name (inj := v1) (ei_listA ev_c (sq_of h9))) (slen (by rw [List.length_append]; show _ + 1 ≤ _; omega)) (fun _ _ => rfl) fun y _ H11 _ => ev_mm (ev_var rfl) (ev_var rfl)
              · have d10 : Dice (upd H10 fl (.lst (F.map vS ++ ((zs ++ [atO o r]).map fun y => mm (atO o q.2) y).map vS))) l := by
                  obtain ⟨a, b, c, hl⟩ := d9.ex e10
                  exact ⟨a, b, c, by rw [upd_ne fll.symm]; exact hl⟩
                have x10 : ExP (fun b => b = l ∨ b = fl) H' (upd H10 fl (.lst (F.map vS ++ ((zs ++ [atO o r]).map fun y => mm (atO o q.2) y).map vS))) :=
                  ((((ExP.of e5).trans (ExP.ofM (.inl rfl) e6)).trans (ExP.of e7)).trans ((ExP.ofM (.inl rfl) e9).trans (ExP.of e10))).upd (.inr rfl)
                have hcl : Cl o (q.2 + 1) (F ++ (zs ++ [atO o r]).map fun y => mm (atO o q.2) y) := cl_step hon hil hrq (clF hb1.1) fun y hy => by
                  have hy2 := List.mem_filter.mp (hzs.subset hy)
                  obtain ⟨i, hi2, e⟩ := List.mem_take_iff_getElem.mp hy2.1
                  refine ⟨i, by omega, ?_, of_decide_eq_true hy2.2⟩
                  rw [← e, atO_eq (show i < o.length by omega)]
                have hfk : Fok o (F ++ (zs ++ [atO o r]).map fun y => mm (atO o q.2) y) := fun c hc => by
                  rcases List.mem_append.1 hc with hc | hc
                  · exact okF c hc
                  · obtain ⟨y, hy, rfl⟩ := List.mem_map.mp hc
                    refine ⟨_, y, atO_mem hil, ?_, rfl⟩
                    rcases List.mem_append.1 hy with hy | hy
                    · exact List.mem_of_mem_take (List.mem_filter.mp (hzs.subset hy)).1
                    · rw [List.mem_singleton] at hy
                      exact hy ▸ atO_mem hro
                have hf10 : (upd H10 fl (.lst (F.map vS ++ ((zs ++ [atO o r]).map fun y => mm (atO o q.2) y).map vS))) fl = some (.lst ((F ++ (zs ++ [atO o r]).map fun y => mm (atO o q.2) y).map vS)) := by
                  rw [upd_same]
                  exact congrArg some (congrArg HO.lst (List.map_append (l₁ := F) (f := vS)).symm)
                generalize upd H10 fl (.lst (F.map vS ++ ((zs ++ [atO o r]).map fun y => mm (atO o q.2) y).map vS)) = H11 at d10 x10 hf10 ⊢
                refine q_when (b := false) (et_is (et_test (ev_op (ev_var rfl) ev_c (rv_eq rfl))) ((dw 2).trans (decide_eq_false (by omega)))) (fun z => nomatch z) fun _ H12 e12 => ?_
                refine s_when (b := false) (et_is (et_test (ev_op (ev_var rfl) ev_c (rv_eq rfl))) ((dw 3).trans (decide_eq_false (by omega)))) (fun z => nomatch z) fun _ H13 e13 => ?_
                have e1213 := e12.trans e13
                exact k _ _ ⟨⟨_, _, _, _, _, _, _, _, rfl⟩, d10.ex e1213, _, e1213 _ _ hf10, by rw [List.length_append, List.length_map, List.length_append]; show _ + (_ + 1) ≤ _; omega, hfk, fun _ => hcl⟩ (x10.trans (ExP.of e1213))
        case n1 =>
          have clN : way = 1 → Cl o (q.2 + 1) F := fun hw => cl_skip hon hil (clF hw)
          refine q_when (b := decide (way = 2)) (et_is (et_test (ev_op (ev_var rfl) ev_c (rv_eq rfl))) (dw 2)) (fun hb2 H6 e6 => ?p2) (fun hb2 H6 e6 => ?n2)
          case p2 =>
            rw [decide_eq_true_eq] at hb2
            have e56 := e5.trans e6
            have p6 := e56 p _ hp'
            have f6 := e56 fl _ hF
            have d6 := dd.ex e56
            have o3 : 0 < o.length := by omega
            have hat : ∀ j, j < o.length → atI (o.map v1) (j : Int) = some (v1 (atO o j)) := fun j hj => atI_nat (by rw [List.getElem?_map, List.getElem?_eq_getElem hj, ← atO_eq hj]; rfl)
            have hmod : (q.2 + 1) % o.length < o.length := Nat.mod_lt _ o3
            refine q_asgR (fun v H7 => ∃ x ∈ o, v = v1 x ∧ Dice H7 l ∧ ExM l H6 H7) (fun Q hQ => ?_) fun v H7 hv => ?_
            · refine ⟨.int (q.2 : Int), rfl, (q.2 : Int), 7, rfl, rfl, _, rfl, ?_⟩
              have evA : ∀ H7, ExM l H6 H7 → Dice H7 l → (tOp (rIxL K) (tVar 3) (tOp (rI (fun _ j => 0 < j) fun i j => .int (i % j)) (tOp (rI0 fun i j => .int (i + j)) (tVar 5) (tC (.int 1))) (tCB (rLenS K) (tCons (tVar 3) tNil)))) (([some (.ref l), some (vS L), some (.int (way : Int)), some (.ref p), some (.ref fl), y5, y6, y7, y8, y9, y10, y11, y12].set 5 (some (.int (q.2 : Nat)))).set 6 (some (v1 q.1))) H7 Q := fun H7 e7 d7 => by
                have p7 := e7 p _ pl p6
                refine (ev_op (z := v1 (atO o ((q.2 + 1) % o.length))) (ev_var rfl) (ev_op (ev_op (ev_var rfl) ev_c rv_I0) (ev_len (ev_var rfl) (sq_of p7)) (rv_I (by rw [List.length_map]; omega))) (rv_ixA (sq_of p7) ?_)) H7 (Ex.refl _) Q fun H8 e8 => hQ _ H8 ⟨_, atO_mem hmod, rfl, d7.ex e8, e7.trans (ExM.of e8)⟩
                rw [List.length_map]
                exact hat _ hmod
              have evB : ∀ H7, ExM l H6 H7 → Dice H7 l → (tOp (rIxL K) (tVar 3) (tC (.int 0))) (([some (.ref l), some (vS L), some (.int (way : Int)), some (.ref p), some (.ref fl), y5, y6, y7, y8, y9, y10, y11, y12].set 5 (some (.int (q.2 : Nat)))).set 6 (some (v1 q.1))) H7 Q := fun H7 e7 d7 => by
                have p7 := e7 p _ pl p6
                exact (ev_op (z := v1 (atO o 0)) (ev_var rfl) ev_c (rv_ixA (sq_of p7) (hat 0 o3))) H7 (Ex.refl _) Q fun H8 e8 => hQ _ H8 ⟨_, atO_mem o3, rfl, d7.ex e8, e7.trans (ExM.of e8)⟩
              by_cases h7 : (q.2 : Int) < 7
              · rw [decide_eq_true h7]
                exact evA H6 (ExM.refl _ _) d6
              · rw [decide_eq_false h7]
                refine ⟨.ref l, rfl, l, 2, rfl, by decide, by decide, d6, fun r H7 hr7 e7 d7 => ?_⟩
                refine ⟨rfl, _, rfl, ?_⟩
                cases decide (V.int (r : Int) = V.int 0) with
                | true => exact evA H7 e7 d7
                | false => exact evB H7 e7 d7
            · obtain ⟨x, hx, rfl, d7, e7⟩ := hv
              have f7 := e7 fl _ fll f6
              refine s_app (l := fl) (v := vS (mm q.1 x)) f7 (ev_var rfl) (ev_mm (ev_var rfl) (ev_var rfl)) (by rw [List.length_map]; omega) fun H8 e8 => ?_
              have d10 : Dice (upd H8 fl (.lst (F.map vS ++ [vS (mm q.1 x)]))) l := by
                obtain ⟨a, b, c, hl⟩ := d7.ex e8
                exact ⟨a, b, c, by rw [upd_ne fll.symm]; exact hl⟩
              have x10 : ExP (fun b => b = l ∨ b = fl) H' (upd H8 fl (.lst (F.map vS ++ [vS (mm q.1 x)]))) := ((ExP.of e56).trans ((ExP.ofM (.inl rfl) e7).trans (ExP.of e8))).upd (.inr rfl)
              have hfk : Fok o (F ++ [mm q.1 x]) := fun c hc => by
                rcases List.mem_append.1 hc with hc | hc
                · exact okF c hc
                · rw [List.mem_singleton] at hc
                  exact ⟨q.1, x, by rw [hq1]; exact atO_mem hil, hx, hc⟩
              have hf10 : (upd H8 fl (.lst (F.map vS ++ [vS (mm q.1 x)]))) fl = some (.lst ((F ++ [mm q.1 x]).map vS)) := by rw [upd_same, List.map_append]; rfl
              generalize upd H8 fl (.lst (F.map vS ++ [vS (mm q.1 x)])) = H11 at d10 x10 hf10 ⊢
              refine s_when (b := false) (et_is (et_test (ev_op (ev_var rfl) ev_c (rv_eq rfl))) ((dw 3).trans (decide_eq_false (by omega)))) (fun z => nomatch z) fun _ H13 e13 => ?_
              exact k _ _ ⟨⟨_, _, _, _, _, _, _, _, rfl⟩, d10.ex e13, _, e13 _ _ hf10, by rw [List.length_append]; show _ + 1 ≤ _; omega, hfk, fun hw => absurd hw (by omega)⟩ (x10.trans (ExP.of e13))
          case n2 =>
            refine s_when (b := decide (way = 3)) (et_is (et_test (ev_op (ev_var rfl) ev_c (rv_eq rfl))) (dw 3)) (fun hb3 H7 e7 => ?p3) (fun hb3 H7 e7 => ?n3)
            case p3 =>
              rw [decide_eq_true_eq] at hb3
              have e57 := e5.trans (e6.trans e7)
              have p7 := e57 p _ hp'
              have f7 := e57 fl _ hF
              have d7 := dd.ex e57
              refine q_asgR (fun v H8 => ∃ m : Int, v = .int m ∧ Dice H8 l ∧ ExM l H7 H8) (fun Q hQ => ?_) fun v H8 hv => ?_
              · exact ⟨.ref l, rfl, l, 3, rfl, by decide, by decide, d7, fun r H8 hr8 e8 d8 => ⟨1, (r : Int), rfl, rfl, hQ _ H8 ⟨_, rfl, d8, e8⟩⟩⟩
              · obtain ⟨m, rfl, d8, e8⟩ := hv
                have p8 := e8 p _ pl p7
                have f8 := e8 fl _ fll f7
                refine s_extLc (fl := fl) (fun a H9 => ∃ zs : T, zs.Sublist o ∧ H9 a = some (.lst (zs.map v1)) ∧ Ex H8 H9) f8 (ev_var rfl) (fun H9 e9 Q hQ => ?h0) (fun a H9 hc => ?hc)
                case h0 =>
                  obtain ⟨zs, hzs, hcut⟩ := cut_sub (o := o) (lo := some (if (q.2 : Int) - m > 0 then (q.2 : Int) - m else 0)) (hi := some (q.2 : Int))
                  have hev := el_sl (K := K) (σ := (((([some (.ref l), some (vS L), some (.int (way : Int)), some (.ref p), some (.ref fl), y5, y6, y7, y8, y9, y10, y11, y12].set 5 (some (.int (q.2 : Nat)))).set 6 (some (v1 q.1)))).set 10 (some (.int m)))) (te := tVar 3) (tl := tPart (tCB rMax2I (tCons (tC (.int 0)) (tCons (tOp (rI0 fun i j => .int (i - j)) (tVar 5) (tVar 10)) tNil)))) (th := tPart (tVar 5)) (ev_var rfl) (eo_some (ev_max2I ev_c (ev_op (ev_var rfl) (ev_var rfl) rv_I0))) (eo_some (ev_var rfl)) (sq_of p8)
                  rw [hcut] at hev
                  exact hev H9 e9 Q fun p1 H10 hp1 e10 h10 => hQ p1 H10 ⟨zs, hzs, h10, e9.trans e10⟩
                case hc =>
                  obtain ⟨zs, hzs, h9, e9⟩ := hc
                  have zl : zs.length ≤ 9 := by have := hzs.length_le; omega
                  have f9 := e9 fl _ f8
                  refine ⟨_, (zs.map fun y => mm q.1 y).map vS, _, h9, el_lcTY (as := zs) (fun y => mm q.1 y) (ew_name (inj := v1) (ei_listA ev_c (sq_of h9))) (slen (by omega)) (fun _ _ => rfl) fun y _ H11 _ => ev_mm (ev_var rfl) (ev_var rfl), f9, by rw [List.length_map, List.length_map, List.length_map]; omega, fun H10 e10 => ?_⟩
                  have d10 : Dice (upd H10 fl (.lst (F.map vS ++ (zs.map fun y => mm q.1 y).map vS))) l := by
                    obtain ⟨a, b, c, hl⟩ := d8.ex (e9.trans e10)
                    exact ⟨a, b, c, by rw [upd_ne fll.symm]; exact hl⟩
                  have x10 : ExP (fun b => b = l ∨ b = fl) H' (upd H10 fl (.lst (F.map vS ++ (zs.map fun y => mm q.1 y).map vS))) := ((ExP.of e57).trans ((ExP.ofM (.inl rfl) e8).trans (ExP.of (e9.trans e10)))).upd (.inr rfl)
                  have hfk : Fok o (F ++ zs.map fun y => mm q.1 y) := fun c hc => by
                    rcases List.mem_append.1 hc with hc | hc
                    · exact okF c hc
                    · obtain ⟨y, hy, rfl⟩ := List.mem_map.mp hc
                      exact ⟨q.1, y, by rw [hq1]; exact atO_mem hil, hzs.subset hy, rfl⟩
                  have hf10 : (upd H10 fl (.lst (F.map vS ++ (zs.map fun y => mm q.1 y).map vS))) fl = some (.lst ((F ++ zs.map fun y => mm q.1 y).map vS)) := by rw [upd_same, List.map_append]
                  exact k _ _ ⟨⟨_, _, _, _, _, _, _, _, rfl⟩, d10, _, hf10, by rw [List.length_append, List.length_map]; omega, hfk, fun hw => absurd hw (by omega)⟩ x10
            case n3 =>
              have e57 := e5.trans (e6.trans e7)
              exact k _ _ ⟨⟨_, _, _, _, _, _, _, _, rfl⟩, dd.ex e57, F, e57 _ _ hF, by omega, okF, clN⟩ (ExP.of e57)
      case fin =>
        intro σ' H' hJ ex
        obtain ⟨⟨y5, y6, y7, y8, y9, y10, y11, y12, rfl⟩, dd, F, hF, lF, okF, clF⟩ := hJ
        have hlen : o.zipIdx.length = o.length := by simp
        rw [hlen] at lF clF
        have okF2 := drawn_sub hL ho okF
        have x5 : ExM l H H' := fun b u hb hu => ex b u (fun z => z.elim hb fun z2 => by rw [z2, hflH] at hu; cases hu) (x4 b u hb hu)
        have two : ∀ c ∈ F, c.length = 2 := fun c hc => by
          obtain ⟨a, b, _, _, rfl⟩ := okF c hc
          rfl
        have hLC := el_lcP (as := F) apart (ew_name (j := 12) (inj := vS) (ei_listA (K := K) (te := tVar 4) (σ := [some (.ref l), some (vS L), some (.int (way : Int)), some (.ref p), some (.ref fl), y5, y6, y7, y8, y9, y10, y11, y12]) (ev_var rfl) (sq_of hF))) (slen (by omega)) (fun _ _ => rfl)
          (vs := [12]) (t := tTest (tOp rNe (tOp rIxS (tVar 12) (tC (.int 0))) (tOp rIxS (tVar 12) (tC (.int 1))))) (te := tVar 12) (fun c hc H5 e5 => ?t1) (fun c _ _ H5 _ => ev_var rfl)
        case t1 =>
          have h2 := two c hc
          have hne : c ≠ [] := fun z => by rw [z] at h2; cases h2
          exact et_is (et_test (ev_op (ev_op (ev_var rfl) ev_c (rv_ix (by omega) (atI_first hne))) (ev_op (ev_var rfl) ev_c (rv_ix (by omega) (atI_sec (by omega)))) (rv_neT (a := [headD c]) (b := [secD c])))) (by unfold apart; rw [dec_one])
        show tLc (iList K (tVar 4)) (gName 12) (tTest (tOp rNe (tOp rIxS (tVar 12) (tC (.int 0))) (tOp rIxS (tVar 12) (tC (.int 1))))) (tVar 12) [12] _ H' (fun x H1 => rSetT K P w [x] H1 fun x H1 => rSortSetT P w [x] H1 fun x H1 => rTupleS K [x] H1 Q)
        refine hLC H' (Ex.refl _) _ fun p5 H5 hp5 e5 h5 => ?_
        refine ⟨p5, F.filter apart, rfl, sq_of h5, Nat.le_trans (List.length_filter_le _ _) (by omega), fun a us nd hm ha => ?_⟩
        have ul : us.length ≤ 36 := Nat.le_trans (nodup_sub_len nd fun x hx => okF2 x ((hm x).mp hx)) (pairs_len h9)
        refine ⟨a, us, rfl, upd_same, nd, by omega, fun ys p6 hp6 hs6 hn6 => ?_⟩
        refine ⟨p6, ys.map vS, rfl, .inl ⟨sq_of upd_same, fun t ht => ?_⟩⟩
        have hmy : ∀ x, x ∈ ys ↔ x ∈ F.filter apart := fun x => hp6.mem_iff.trans (hm x)
        have hC := drawn_conf hL ho okF hmy (asc_of_sorted hs6 (hp6.nodup_iff.mpr nd))
        have eT := e5.trans ((Ex.new (o := SetTxO _ _ a (us.map S)) ha).trans ((Ex.new (o := .lst (ys.map vS)) hn6).trans (Ex.new (o := .tup (ys.map vS)) ht)))
        have htl := dice_ne (H' := H') (dd.ex (e5.trans ((Ex.new (o := SetTxO _ _ a (us.map S)) ha).trans (Ex.new (o := .lst (ys.map vS)) hn6)))) ht
        refine q ys t _ hC (fun hw _ => drawn_peo hL.nd ho (clF hw) hmy) ?_ (x5.trans (ExM.of eT)) (dd.ex eT) upd_same
        exact none_exM (x5.trans (ExM.of (e5.trans ((Ex.new ha).trans (Ex.new hn6))))) htl ht
end
end WW

/-! the law's mathematics: letters that come first -/
namespace WW
section
variable {L : T} {C : List T}
theorem pairOf_eq (a b : Nat) : pairOf a b = [min a b, max a b] := by
  unfold pairOf
  split
  · rw [Nat.min_eq_left (by omega), Nat.max_eq_right (by omega)]
  · rw [Nat.min_eq_right (by omega), Nat.max_eq_left (by omega)]
theorem clash_iff {a b : Nat} : clash C a b = true ↔ a = b ∨ pairOf a b ∈ C := by
  unfold clash
  rw [Bool.or_eq_true, decide_eq_true_eq, decide_eq_true_eq, pairOf_eq]
theorem clash_refl (a : Nat) : clash C a a = true := clash_iff.mpr (.inl rfl)
theorem clash_symm (a b : Nat) : clash C a b = clash C b a := by
  unfold clash
  rw [Nat.min_comm, Nat.max_comm]
  congr 1
  by_cases h : a = b
  · subst h; rfl
  · rw [decide_eq_false h, decide_eq_false fun e => h e.symm]
theorem clash_sw {a b : Nat} (h : clash C a b = true) : clash C b a = true := by rw [clash_symm]; exact h
theorem mem_rowC {a b : Nat} : b ∈ row L C a ↔ b ∈ L ∧ clash C a b = true := by
  rw [mem_row, clash_iff]
  constructor
  · rintro ⟨h, h2 | h2⟩
    · exact ⟨h, .inl h2.symm⟩
    · exact ⟨h, .inr h2⟩
  · rintro ⟨h, h2 | h2⟩
    · exact ⟨h, .inl h2.symm⟩
    · exact ⟨h, .inr h2⟩
/-- those of o that conflict with a conflict with one another -/
def Simp (C : List T) (a : Nat) (o : T) : Prop := ∀ x ∈ o, ∀ y ∈ o, clash C a x = true → clash C a y = true → clash C x y = true
theorem simp_sub {a : Nat} {o o2 : T} (h : Simp C a o) (hs : ∀ x ∈ o2, x ∈ o) : Simp C a o2 := fun x hx y hy => h x (hs x hx) y (hs y hy)
theorem simp_cons {a : Nat} {o : T} (h : Simp C a o) : Simp C a (a :: o) := fun x hx y hy h1 h2 => by
  rcases List.mem_cons.1 hx with e | hx
  · subst e; exact h2
  · rcases List.mem_cons.mp hy with e | hy
    · subst e; exact clash_sw h1
    · exact h x hx y hy h1 h2
theorem simple_iff {a : Nat} {o : T} (h : ∀ x ∈ o, x ∈ L) : simple L C a o = true ↔ Simp C a o := by
  unfold simple nearOf Simp
  simp only [List.all_eq_true, List.mem_flatMap, List.mem_map, List.mem_filter, decide_eq_true_eq, mem_rowC]
  constructor
  · intro k x hx y hy h1 h2
    have := k _ ⟨x, ⟨hx, h x hx, h1⟩, y, ⟨hy, h y hy, h2⟩, rfl⟩
    exact clash_sw (of_decide_eq_true this).2
  · rintro k b ⟨x, ⟨hx, _, h1⟩, y, ⟨hy, _, h2⟩, rfl⟩
    exact decide_eq_true ⟨h x hx, clash_sw (k x hx y hy h1 h2)⟩
theorem all_near {N : T} {c : Nat} (hn : N.Nodup) (hc : c ∈ N) : ¬ ((lNear C c N).length + 1 < N.length) ↔ ∀ d ∈ N, clash C c d = true := by
  constructor
  · intro h d hd
    by_cases hcd : d = c
    · subst hcd; exact clash_refl _
    refine Classical.byContradiction fun z => h ?_
    have := nodup_sub_len (a := c :: d :: lNear C c N) (b := N) ?_ ?_
    · rw [List.length_cons, List.length_cons] at this; omega
    · refine List.nodup_cons.mpr ⟨fun hm => ?_, List.nodup_cons.mpr ⟨fun hm => ?_, hn.filter _⟩⟩
      · rcases List.mem_cons.1 hm with e | hm
        · exact hcd e.symm
        · have := (List.mem_filter.mp hm).2
          simp at this
      · have := (List.mem_filter.mp hm).2
        rw [Bool.and_eq_true] at this
        exact z this.2
    · intro x hx
      rcases List.mem_cons.1 hx with e | hx
      · exact e ▸ hc
      · rcases List.mem_cons.mp hx with e | hx
        · exact e ▸ hd
        · exact lNear_mem hx
  · intro h
    have := nodup_sub_len (a := N) (b := c :: lNear C c N) hn fun x hx => ?_
    · rw [List.length_cons] at this; omega
    · by_cases e : x = c
      · subst e; exact .head _
      · refine .tail _ (List.mem_filter.mpr ⟨hx, ?_⟩)
        rw [h x hx, decide_eq_false e]
        rfl
theorem lFirst_iff {a : Nat} {o : T} (hn : o.Nodup) : lFirst C a o = true ↔ Simp C a o := by
  unfold lFirst
  rw [List.isEmpty_iff, List.filter_eq_nil_iff]
  have hN : (lNear C a o).Nodup := hn.filter _
  constructor
  · intro h x hx y hy h1 h2
    by_cases e1 : x = a
    · subst e1; exact h2
    by_cases e2 : y = a
    · subst e2; exact clash_sw h1
    have mx : x ∈ lNear C a o := List.mem_filter.mpr ⟨hx, by rw [h1, decide_eq_false e1]; rfl⟩
    have my : y ∈ lNear C a o := List.mem_filter.mpr ⟨hy, by rw [h2, decide_eq_false e2]; rfl⟩
    exact (all_near hN mx).mp (fun z => h x mx (decide_eq_true z)) y my
  · intro h c hc z
    refine (all_near hN hc).mpr (fun d hd => ?_) (of_decide_eq_true z)
    have a1 := List.mem_filter.mp hc
    have a2 := List.mem_filter.mp hd
    rw [Bool.and_eq_true] at a1 a2
    exact h c a1.1 d a2.1 a1.2.2 a2.2.2
theorem bool_ext {a b : Bool} (h : a = true ↔ b = true) : a = b := by
  (cases a <;> cases b) <;> simp_all
theorem drop_at {z : T} {i : Nat} (h : i < z.length) : z.drop i = atO z i :: z.drop (i + 1) := by
  rw [atO_eq h]
  exact List.drop_eq_getElem_cons h
theorem first_at {z : T} (hn : z.Nodup) (hs : ∀ x ∈ z, x ∈ L) {i : Nat} (h : i < z.length) : simple L C (atO z i) (z.drop i) = true ↔ lFirst C (atO z i) (z.drop (i + 1)) = true := by
  rw [simple_iff fun x hx => hs x (List.mem_of_mem_drop hx), lFirst_iff (hn.sublist (List.drop_sublist _ _)), drop_at h]
  exact ⟨fun k => simp_sub k fun x hx => .tail _ hx, simp_cons⟩
theorem isort_ok {z : T} (h : isort z = L) : z.Perm L := by
  rw [← h]
  exact (isort_perm z).symm
theorem mem_zipIdx {z : T} {p : Nat × Nat} (h : p ∈ z.zipIdx) : p.2 < z.length ∧ p.1 = atO z p.2 := by
  obtain ⟨a, i⟩ := p
  have := List.mem_zipIdx h
  simp only [Nat.zero_add, Nat.sub_zero] at this
  exact ⟨this.2.1, by rw [atO_eq this.2.1]; exact this.2.2⟩
theorem n_is_eq (hL : Lets L) (z : T) : elimIs L C z = lElim L C z := by
  unfold elimIs lElim
  by_cases h : isort z = L
  · rw [decide_eq_true h, Bool.true_and, Bool.true_and]
    have hp := isort_ok h
    have hn : z.Nodup := hp.nodup_iff.mpr hL.nd
    refine bool_ext ?_
    rw [List.all_eq_true, List.all_eq_true]
    constructor
    · intro k p hpz
      obtain ⟨h1, h2⟩ := mem_zipIdx hpz
      have := k _ (List.mem_map_of_mem hpz)
      simp only [id] at this
      rw [h2] at this ⊢
      exact (first_at hn (fun x hx => hp.mem_iff.mp hx) h1).mp this
    · intro k b hb
      obtain ⟨p, hpz, rfl⟩ := List.mem_map.mp hb
      obtain ⟨h1, h2⟩ := mem_zipIdx hpz
      have := k p hpz
      simp only [id]
      rw [h2] at this ⊢
      exact (first_at hn (fun x hx => hp.mem_iff.mp hx) h1).mpr this
  · rw [decide_eq_false h]
    rfl
/-- an order, the least that may come first each time -/
def Gr (C : List T) : T → Prop
  | [] => True
  | a :: r => Simp C a (a :: r) ∧ (∀ c ∈ a :: r, c < a → ¬ Simp C c (a :: r)) ∧ Gr C r
theorem gr_at : ∀ {o : T}, Gr C o → ∀ i, i < o.length → Simp C (atO o i) (o.drop i) ∧ ∀ c ∈ o.drop i, c < atO o i → ¬ Simp C c (o.drop i)
  | [], _, i, h => absurd h (Nat.not_lt_zero _)
  | a :: r, h, 0, _ => ⟨h.1, h.2.1⟩
  | a :: r, h, i + 1, hi => gr_at h.2.2 i (by rw [List.length_cons] at hi; omega)
theorem elim_some : ∀ (m : Nat) (l f o : T), AscT l → (∀ x ∈ l, x ∈ L) → elimLoop L C m l f = some o → ∃ s, o = f ++ s ∧ s.Perm l ∧ Gr C s
  | 0, l, f, o, _, _, h => by cases h
  | m + 1, l, f, o, ha, hs, h => by
    unfold elimLoop at h
    by_cases hl : l = []
    · rw [if_pos hl] at h
      subst hl
      exact ⟨[], by rw [List.append_nil]; exact (Option.some.inj h).symm, .refl _, True.intro⟩
    rw [if_neg hl] at h
    have hn := asc_nodup ha
    cases hf : l.filter (fun c => simple L C c l) with
    | nil => rw [hf] at h; cases h
    | cons c r =>
      rw [hf] at h
      have hc := List.mem_filter.mp (hf ▸ List.Mem.head _ : c ∈ l.filter fun c => simple L C c l)
      obtain ⟨s, e1, e2, e3⟩ := elim_some m (l.filter (· != c)) (f ++ [c]) o (ha.sublist List.filter_sublist) (fun x hx => hs x (List.mem_filter.mp hx).1) h
      have hp : (c :: s).Perm l := by
        have k := List.perm_cons_erase hc.1
        rw [hn.erase_eq_filter] at k
        exact (e2.cons c).trans k.symm
      refine ⟨c :: s, by rw [e1, List.append_assoc]; rfl, hp, simp_sub ((simple_iff hs).mp hc.2) fun x hx => hp.mem_iff.mp hx, fun d hd hdc z => ?_, e3⟩
      have hd2 : d ∈ l.filter fun c => simple L C c l := List.mem_filter.mpr ⟨hp.mem_iff.mp hd, (simple_iff hs).mpr (simp_sub z fun x hx => hp.mem_iff.mpr hx)⟩
      have hasc : AscT (l.filter fun c => simple L C c l) := ha.sublist List.filter_sublist
      rw [hf] at hd2 hasc
      rcases List.mem_cons.mp hd2 with e | hd2
      · omega
      · have := (List.pairwise_cons.mp hasc).1 d hd2
        omega
theorem elim_none : ∀ (m : Nat) (l f : T), l.Nodup → (∀ x ∈ l, x ∈ L) → l.length < m → elimLoop L C m l f = none → ∃ u : T, u ≠ [] ∧ u.Nodup ∧ (∀ x ∈ u, x ∈ L) ∧ ∀ c ∈ u, ¬ Simp C c u
  | 0, l, f, _, _, hm, _ => absurd hm (Nat.not_lt_zero _)
  | m + 1, l, f, hn, hs, hm, h => by
    unfold elimLoop at h
    by_cases hl : l = []
    · rw [if_pos hl] at h; exact nomatch h
    rw [if_neg hl] at h
    cases hf : l.filter (fun c => simple L C c l) with
    | nil =>
      refine ⟨l, hl, hn, hs, fun c hc z => ?_⟩
      exact List.filter_eq_nil_iff.mp hf c hc ((simple_iff hs).mpr z)
    | cons c r =>
      rw [hf] at h
      have hc := List.mem_filter.mp (hf ▸ List.Mem.head _ : c ∈ l.filter fun c => simple L C c l)
      refine elim_none m (l.filter (· != c)) (f ++ [c]) (hn.filter _) (fun x hx => hs x (List.mem_filter.mp hx).1) ?_ h
      have k := (List.perm_cons_erase hc.1).length_eq
      rw [hn.erase_eq_filter, List.length_cons] at k
      omega
theorem elim_gr (hL : Lets L) {o : T} (h : elimOf L C = some o) : o.Perm L ∧ Gr C o := by
  obtain ⟨s, e, hp, hg⟩ := elim_some (L.length + 1) L [] o hL.asc (fun x hx => hx) h
  rw [List.nil_append] at e
  subst e
  exact ⟨hp, hg⟩
theorem n_elim_law (hL : Lets L) {o : T} (h : elimOf L C = some o) : lElim L C o = true := by
  obtain ⟨hp, hg⟩ := elim_gr hL h
  have hn : o.Nodup := hp.nodup_iff.mpr hL.nd
  unfold lElim
  rw [decide_eq_true (sorted_unique ((isort_perm o).trans hp) (isort_sorted o) (hL.asc.imp fun h => Nat.le_of_lt h)), Bool.true_and, List.all_eq_true]
  intro p hpz
  obtain ⟨h1, h2⟩ := mem_zipIdx hpz
  rw [h2, ← first_at (L := L) hn (fun x hx => hp.mem_iff.mp hx) h1, simple_iff fun x hx => hp.mem_iff.mp (List.mem_of_mem_drop hx)]
  exact (gr_at hg p.2 h1).1
theorem n_less (hL : Lets L) {o : T} (h : elimOf L C = some o) {i : Nat} (hi : i < o.length) : ∀ c ∈ o.drop i, c < atO o i → lFirst C c (o.drop i) = false := fun c hc hlt => by
  obtain ⟨hp, hg⟩ := elim_gr hL h
  have hn : o.Nodup := hp.nodup_iff.mpr hL.nd
  cases hz : lFirst C c (o.drop i) with
  | false => rfl
  | true => exact absurd ((lFirst_iff (hn.sublist (List.drop_sublist _ _))).mp hz) ((gr_at hg i hi).2 c hc hlt)
/-- the last that holds in an order -/
theorem last_of {p : Nat → Prop} : ∀ {q : T}, (∃ x ∈ q, p x) → ∃ q1 c q2, q = q1 ++ c :: q2 ∧ p c ∧ ∀ d ∈ q2, ¬ p d
  | [], h => by obtain ⟨x, hx, _⟩ := h; cases hx
  | a :: q, h => by
    by_cases hq : ∃ x ∈ q, p x
    · obtain ⟨q1, c, q2, e, h1, h2⟩ := last_of hq
      exact ⟨a :: q1, c, q2, by rw [e]; rfl, h1, h2⟩
    · obtain ⟨x, hx, hp⟩ := h
      rcases List.mem_cons.1 hx with e | hx
      · subst e
        exact ⟨[], x, q, rfl, hp, fun d hd z => hq ⟨d, hd, z⟩⟩
      · exact absurd ⟨x, hx, hp⟩ hq
theorem n_peo (hL : Lets L) (h : Peo L C) : elimOf L C ≠ none := fun hz => by
  obtain ⟨u, hne, hn, hs, hno⟩ := elim_none (L.length + 1) L [] hL.nd (fun x hx => hx) (Nat.lt_succ_self _) hz
  obtain ⟨o, hp, ho⟩ := h
  have hno2 : o.Nodup := hp.nodup_iff.mpr hL.nd
  obtain ⟨x, hx⟩ := List.exists_mem_of_ne_nil u hne
  obtain ⟨q1, c, q2, e, hc, hd⟩ := last_of (p := fun x => x ∈ u) ⟨x, hp.mem_iff.mpr (hs x hx), hx⟩
  refine hno c hc fun x hx y hy h1 h2 => ?_
  have hm : q1.length < o.length := by rw [e, List.length_append, List.length_cons]; omega
  have hcm : atO o q1.length = c := by
    rw [atO_eq hm]
    simp only [e]
    rw [List.getElem_append_right (Nat.le_refl _)]
    simp
  have back : ∀ x ∈ u, x ≠ c → ∃ i, i < q1.length ∧ atO o i = x := fun x hx hxc => by
    have hxo := hp.mem_iff.mpr (hs x hx)
    rw [e] at hxo
    rcases List.mem_append.mp hxo with k | k
    · obtain ⟨i, hi, k⟩ := List.mem_iff_getElem.mp k
      refine ⟨i, hi, ?_⟩
      rw [atO_eq (by omega)]
      simp only [e]
      rw [List.getElem_append_left hi]
      exact k
    · rcases List.mem_cons.mp k with k | k
      · exact absurd k hxc
      · exact absurd hx (hd x k)
  by_cases ex : x = c
  · subst ex; exact h2
  by_cases ey : y = c
  · subst ey; exact clash_sw h1
  by_cases exy : x = y
  · subst exy; exact clash_refl _
  obtain ⟨i, hi, rfl⟩ := back x hx ex
  obtain ⟨j, hj, rfl⟩ := back y hy ey
  have f : ∀ {a b : Nat}, clash C a b = true → a ≠ b → mm b a ∈ C := fun {a b} h hne => by
    rcases clash_iff.mp h with k | k
    · exact absurd k hne
    · rw [pairOf_eq] at k
      rw [mm_comm]
      exact k
  have g := ho q1.length hm i j hi hj (fun e => exy (by rw [e])) (by rw [hcm]; exact f h1 fun z => ex z.symm) (by rw [hcm]; exact f h2 fun z => ey z.symm)
  refine clash_iff.mpr (.inr ?_)
  rw [pairOf_eq]
  exact g
end
end WW

/-! the law's mathematics: paths and rings are the same lists -/
namespace WW
theorem mem_dl {p : T} {x : Nat} (h : x ∈ p.dropLast) : x ∈ p := (List.dropLast_sublist _).subset h
section
variable {L : T} {C : List T}
theorem flat_congr {α β : Type} {f g : α → List β} : ∀ {l : List α}, (∀ a ∈ l, f a = g a) → l.flatMap f = l.flatMap g
  | [], _ => rfl
  | a :: l, h => by
    rw [List.flatMap_cons, List.flatMap_cons, h a (.head _), flat_congr fun b hb => h b (.tail _ hb)]
theorem filter_eq {p q : Nat → Bool} {l : T} (h : ∀ x ∈ l, p x = true ↔ q x = true) : l.filter p = l.filter q := List.filter_congr fun x hx => bool_ext (h x hx)
theorem loose_iff {c : Nat} {o : T} (hs : ∀ x ∈ o, x ∈ L) : looseFrom L C c o = true ↔ ∀ x ∈ o, clash C c x = false := by
  unfold looseFrom
  rw [List.all_eq_true]
  constructor
  · intro h x hx
    have := h _ (List.mem_map_of_mem hx)
    simp only [id, Bool.not_eq_true', decide_eq_false_iff_not, mem_rowC] at this
    cases hz : clash C c x with
    | false => rfl
    | true => exact absurd ⟨hs x hx, hz⟩ this
  · intro h b hb
    obtain ⟨x, hx, rfl⟩ := List.mem_map.mp hb
    simp only [id, Bool.not_eq_true', decide_eq_false_iff_not, mem_rowC]
    rintro ⟨_, hz⟩
    rw [h x hx] at hz
    cases hz
theorem any_iff {c : Nat} {o : T} : (!(o.map fun t => clash C t c).any id) = true ↔ ∀ x ∈ o, clash C c x = false := by
  rw [Bool.not_eq_true', List.any_eq_false]
  refine ⟨fun h t ht => ?_, fun h b hb => ?_⟩
  · have := h _ (List.mem_map_of_mem ht)
    rw [clash_symm]
    simpa using this
  · obtain ⟨t, ht, rfl⟩ := List.mem_map.mp hb
    simp only [id]
    rw [clash_symm, h t ht]
    decide
theorem row_eq {a : Nat} : row L C a = L.filter fun o => clash C a o := filter_eq fun x hx => by
  rw [clash_iff, Bool.or_eq_true, decide_eq_true_eq, decide_eq_true_eq]
  exact ⟨fun h => h.imp Eq.symm id, fun h => h.imp Eq.symm id⟩
theorem bare_eq {p : T} (hs : ∀ x ∈ p, x ∈ L) : bare1 L C p = lBare1 L C p := by
  unfold bare1 lBare1 lNearP
  rw [row_eq, List.filter_filter, List.filter_filter]
  congr 1
  refine filter_eq fun c hc => ?_
  rw [Bool.and_eq_true, Bool.and_eq_true, Bool.and_eq_true, Bool.and_eq_true, loose_iff fun x hx => hs x (mem_dl hx), any_iff]
  exact ⟨fun ⟨⟨a, b⟩, d⟩ => ⟨b, a, d⟩, fun ⟨b, a, d⟩ => ⟨⟨a, b⟩, d⟩⟩
theorem bareOf_eq {ts : List T} (hs : ∀ p ∈ ts, ∀ x ∈ p, x ∈ L) : bareOf L C ts = lBareOf L C ts := flat_congr fun p hp => bare_eq (hs p hp)
theorem paths_eq (hL : L.Nodup) : ∀ k, pathsAt L C k = lPaths L C k
  | 0 => rfl
  | k + 1 => by
    show bareOf L C (pathsAt L C k) = lBareOf L C (lPaths L C k)
    rw [paths_eq hL k]
    exact bareOf_eq fun p hp => ((lpaths_ok hL k).1 p hp).2.2
theorem lf_iff {p : T} : leastFirst p = true ↔ ∀ c ∈ p.drop 1, headD p < c := by
  unfold leastFirst
  rw [List.all_eq_true]
  constructor
  · intro h c hc
    exact of_decide_eq_true (h _ (List.mem_map_of_mem hc))
  · intro h b hb
    obtain ⟨c, hc, rfl⟩ := List.mem_map.mp hb
    exact decide_eq_true (h c hc)
theorem lf_min {p : T} (hn : p.Nodup) : leastFirst p = true ↔ headD p = minT p := by
  rw [lf_iff]
  cases p with
  | nil => exact ⟨fun _ => rfl, fun _ c hc => nomatch hc⟩
  | cons a r =>
    have hn' := List.nodup_cons.1 hn
    obtain ⟨h1, h2⟩ := minT_go r a
    show (∀ c ∈ r, a < c) ↔ a = r.foldl min a
    constructor
    · intro h
      rcases List.mem_cons.1 h1 with e | e
      · exact e.symm
      · have := h _ e
        have := h2 a (.head _)
        omega
    · intro h c hc
      have h3 := h2 c (.tail _ hc)
      rw [← h] at h3
      by_cases e : a = c
      · subst e; exact absurd hc hn'.1
      · omega
theorem lf_snoc {p : T} {c : Nat} (hp : p ≠ []) (h : leastFirst (p ++ [c]) = true) : leastFirst p = true := by
  rw [lf_iff] at h ⊢
  cases p with
  | nil => exact absurd rfl hp
  | cons a r => exact fun d hd => h d (List.mem_append_left _ hd)
theorem flat_filter {f : T → List T} {q : T → Bool} : ∀ {ts : List T}, (∀ p ∈ ts, q p = false → (f p).filter q = []) → ((ts.filter q).flatMap f).filter q = (ts.flatMap f).filter q
  | [], _ => rfl
  | p :: ts, h => by
    have ih := flat_filter (f := f) (q := q) (ts := ts) fun p hp => h p (.tail _ hp)
    rw [List.flatMap_cons, List.filter_append, List.filter_cons]
    split
    · rw [List.flatMap_cons, List.filter_append, ih]
    · rename_i hq
      rw [h p (.head _) (by simpa using hq), List.nil_append, ih]
theorem flat_if {f g : T → List T} {q : T → Bool} : ∀ {ts : List T}, (∀ p ∈ ts, f p = if q p = true then g p else []) → ts.flatMap f = (ts.filter q).flatMap g
  | [], _ => rfl
  | p :: ts, h => by
    have ih := flat_if (f := f) (g := g) (q := q) (ts := ts) fun p hp => h p (.tail _ hp)
    rw [List.flatMap_cons, h p (.head _), List.filter_cons, ih]
    split
    · rw [List.flatMap_cons]
    · rw [List.nil_append]
/-- the program's paths of k + 1 letters on the way to a ring -/
def qs (L : T) (C : List T) (k : Nat) : List T := (lPaths L C k).filter leastFirst
theorem qs_zero : qs L C 0 = L.map fun c => [c] := List.filter_eq_self.mpr fun p hp => by
  obtain ⟨c, _, rfl⟩ := List.mem_map.mp hp
  rfl
theorem qs_step (hL : L.Nodup) (k : Nat) : ringStep L C (qs L C k) = qs L C (k + 1) := by
  show (bareOf L C ((lPaths L C k).filter leastFirst)).filter leastFirst = (lBareOf L C (lPaths L C k)).filter leastFirst
  have hp := (lpaths_ok (C := C) hL k).1
  rw [bareOf_eq fun p hq => (hp p (List.mem_filter.mp hq).1).2.2]
  refine flat_filter fun p hq hz => ?_
  refine List.filter_eq_nil_iff.mpr fun r hr z => ?_
  unfold lBare1 at hr
  obtain ⟨c, _, rfl⟩ := List.mem_map.mp hr
  have := lf_snoc (List.ne_nil_of_length_pos (by rw [(hp p hq).2.1]; omega)) z
  rw [hz] at this
  cases this
theorem lnear_nil {c : Nat} {o : T} (hc : c ∉ o) : lNear C c o = [] ↔ ∀ x ∈ o, clash C c x = false := by
  unfold lNear
  rw [List.filter_eq_nil_iff]
  refine ⟨fun h x hx => ?_, fun h x hx z => ?_⟩
  · cases hz : clash C c x with
    | false => rfl
    | true => exact absurd (by rw [hz, decide_eq_false fun e : x = c => hc (e ▸ hx)]; rfl) (h x hx)
  · rw [Bool.and_eq_true, h x hx] at z
    exact nomatch z.2
theorem inner_sub {p : T} : ∀ x ∈ (p.drop 1).dropLast, x ∈ p := fun x hx => List.mem_of_mem_drop (mem_dl hx)
theorem rings_eq {p : T} (hs : ∀ x ∈ p, x ∈ L) (hp : p ≠ []) : ringsBy L C p = ((lEnds L C p).filter fun c => decide (lNear C c (p.drop 1).dropLast = [])).map fun c => p ++ [c] := by
  unfold ringsBy endsOf lEnds lEnds1
  rw [row_eq (a := lastD p), List.filter_filter, List.filter_filter, List.filter_filter, List.filter_filter]
  congr 1
  refine filter_eq fun c hc => ?_
  simp only [Bool.and_eq_true, decide_eq_true_eq, Bool.not_eq_true', decide_eq_false_iff_not, mem_rowC]
  constructor
  · rintro ⟨⟨⟨h1, h2⟩, h3, _, h4⟩, h5⟩
    have h2' := (loose_iff (fun x hx => hs x (inner_sub x hx))).mp h2
    exact ⟨⟨(lnear_nil fun z => h1 (inner_sub c z)).mpr h2', clash_sw h4, clash_sw h5⟩, h3, h1⟩
  · rintro ⟨⟨h1, h2, h3⟩, h4, h5⟩
    exact ⟨⟨⟨h5, (loose_iff (fun x hx => hs x (inner_sub x hx))).mpr ((lnear_nil fun z => h5 (inner_sub c z)).mp h1)⟩, h4, hc, clash_sw h2⟩, clash_sw h3⟩
theorem rings_at (hL : L.Nodup) (k : Nat) : (qs L C (k + 2)).flatMap (ringsBy L C) = lRingsAt L C k := by
  refine (flat_if fun p hp => ?_).symm
  have h := (lpaths_ok hL (k + 2)).1 p hp
  unfold lRing1
  rw [← rings_eq h.2.2 (List.ne_nil_of_length_pos (by rw [h.2.1]; omega))]
  by_cases e : headD p = minT p
  · rw [if_pos e, if_pos ((lf_min h.1).mpr e)]
  · rw [if_neg e, if_neg fun z => e ((lf_min h.1).mp z)]
theorem qs_nil (hL : L.Nodup) {k : Nat} (h : qs L C k = []) : qs L C (k + 1) = [] := by
  rw [← qs_step hL, h]
  rfl
theorem rings_len (hL : L.Nodup) {k : Nat} (h : lRingsAt L C k ≠ []) : k + 4 ≤ L.length := by
  obtain ⟨r, hr⟩ := List.exists_mem_of_ne_nil _ h
  obtain ⟨p, hp, hr⟩ := List.mem_flatMap.mp hr
  have hl := (lpaths_ok hL (k + 2)).1 p hp
  unfold lRing1 at hr
  split at hr
  · obtain ⟨c, hc, rfl⟩ := List.mem_map.mp hr
    have hc := (List.mem_filter.mp hc).1
    unfold lEnds lEnds1 at hc
    have hc := (List.mem_filter.mp hc).1
    have hc2 := List.mem_filter.mp hc
    simp only [Bool.and_eq_true, Bool.not_eq_true', decide_eq_false_iff_not] at hc2
    have := nodup_sub_len (nodup_snoc hl.1 hc2.2.2) (b := L) fun x hx => by
      rcases List.mem_append.1 hx with hx | hx
      · exact hl.2.2 x hx
      · rw [List.mem_singleton] at hx
        exact hx ▸ hc2.1
    rw [List.length_append, hl.2.1] at this
    exact this
  · cases hr
theorem go_iff (hL : L.Nodup) (i : Nat) : ringGo L C (qs L C (i + 1)) = true ↔ 1 ≤ i ∧ (qs L C (i + 1)).flatMap (ringsBy L C) ≠ [] := by
  unfold ringGo
  cases hq : qs L C (i + 1) with
  | nil => simp
  | cons p r =>
    have hp : p ∈ qs L C (i + 1) := hq ▸ List.Mem.head _
    have hl := ((lpaths_ok hL (i + 1)).1 p (List.mem_filter.mp hp).1).2.1
    have e : ((p :: r).headD []).length = i + 2 := hl
    rw [e]
    simp only [Bool.and_eq_true, decide_eq_true_eq, Bool.not_eq_true', List.isEmpty_eq_false_iff]
    constructor
    · rintro ⟨_, h2, h3⟩
      exact ⟨by omega, h3⟩
    · rintro ⟨h1, h2⟩
      exact ⟨fun z => (nomatch z), by omega, h2⟩
theorem loop_none (hL : L.Nodup) : ∀ (m i : Nat), (∀ k, i ≤ k + 1 → lRingsAt L C k = []) → ringLoop L C m (qs L C i) = none
  | 0, _, _ => rfl
  | m + 1, i, h => by
    unfold ringLoop
    split
    · rfl
    rw [qs_step hL, if_neg, loop_none hL m (i + 1) fun k hk => h k (by omega)]
    rw [go_iff hL]
    rintro ⟨h1, h2⟩
    obtain ⟨j, rfl⟩ : ∃ j, i = j + 1 := ⟨i - 1, by omega⟩
    rw [rings_at hL] at h2
    exact h2 (h j (Nat.le_refl _))
theorem qs_far (hL : L.Nodup) {i : Nat} (h : qs L C i = []) : ∀ j, qs L C (i + j) = []
  | 0 => h
  | j + 1 => qs_nil hL (qs_far hL h j)
theorem loop_some (hL : L.Nodup) {k : Nat} (hk : lRingsAt L C k ≠ []) (hl : ∀ j, j < k → lRingsAt L C j = []) : ∀ (m i : Nat), i ≤ k + 1 → k + 1 < i + m → ringLoop L C m (qs L C i) = some (minL (lRingsAt L C k))
  | 0, i, h1, h2 => by omega
  | m + 1, i, h1, h2 => by
    unfold ringLoop
    rw [if_neg]
    · rw [qs_step hL]
      by_cases e : i = k + 1
      · subst e
        rw [if_pos ((go_iff hL _).mpr ⟨by omega, by rw [rings_at hL]; exact hk⟩), rings_at hL]
      · rw [if_neg, loop_some hL hk hl m (i + 1) (by omega) (by omega)]
        rw [go_iff hL]
        rintro ⟨h3, h4⟩
        obtain ⟨j, rfl⟩ : ∃ j, i = j + 1 := ⟨i - 1, by omega⟩
        rw [rings_at hL] at h4
        exact h4 (hl j (by omega))
    · intro z
      have := qs_far hL z (k + 2 - i)
      rw [show i + (k + 2 - i) = k + 2 by omega] at this
      rw [← rings_at hL, this] at hk
      exact hk rfl
theorem lgo : ∀ (m k : Nat), (lRingGo L C m k = [] ∧ ∀ j, k ≤ j → j < k + m → lRingsAt L C j = []) ∨ ∃ i, k ≤ i ∧ i < k + m ∧ lRingsAt L C i ≠ [] ∧ lRingGo L C m k = lRingsAt L C i ∧ ∀ j, k ≤ j → j < i → lRingsAt L C j = []
  | 0, k => .inl ⟨rfl, fun j h1 h2 => by omega⟩
  | m + 1, k => by
    unfold lRingGo
    by_cases h : lRingsAt L C k = []
    · rw [if_pos h]
      rcases lgo m (k + 1) with ⟨e, h2⟩ | ⟨i, h1, h2, h3, h4, h5⟩
      · refine .inl ⟨e, fun j a b => ?_⟩
        by_cases ej : j = k
        · subst ej; exact h
        · exact h2 j (by omega) (by omega)
      · refine .inr ⟨i, by omega, by omega, h3, h4, fun j a b => ?_⟩
        by_cases ej : j = k
        · subst ej; exact h
        · exact h5 j (by omega) b
    · rw [if_neg h]
      exact .inr ⟨k, Nat.le_refl _, by omega, h, rfl, fun j a b => by omega⟩
theorem rings_cases (hL : L.Nodup) : (lRings L C = [] ∧ ∀ j, lRingsAt L C j = []) ∨ ∃ i, lRingsAt L C i ≠ [] ∧ lRings L C = lRingsAt L C i ∧ ∀ j, j < i → lRingsAt L C j = [] := by
  rcases lgo (L := L) (C := C) (L.length - 3) 0 with ⟨e, h⟩ | ⟨i, h1, h2, h3, h4, h5⟩
  · refine .inl ⟨e, fun j => Classical.byContradiction fun z => ?_⟩
    have := rings_len hL z
    exact z (h j (by omega) (by omega))
  · exact .inr ⟨i, h3, h4, fun j hj => h5 j (by omega) hj⟩
theorem n_ring (hL : Lets L) : ringOf L C = if lRings L C = [] then none else some (minL (lRings L C)) := by
  unfold ringOf
  rw [← qs_zero (C := C)]
  rcases rings_cases (C := C) hL.nd with ⟨e, h⟩ | ⟨i, h1, h2, h3⟩
  · rw [if_pos e, loop_none hL.nd _ _ fun k _ => h k]
  · rw [h2, if_neg h1]
    have := rings_len hL.nd h1
    exact loop_some hL.nd h1 h3 _ _ (by omega) (by omega)
end
end WW

/-! the law's mathematics: claws and fans -/
namespace WW
section
variable {L : T} {C : List T}
theorem lt_cons {a b : Nat} {s t : T} : (a :: s) < (b :: t) ↔ a < b ∨ a = b ∧ s < t := List.cons_lt_cons_iff
theorem lt_app_same {c d : Nat} (h : c < d) : ∀ p : T, p ++ [c] < p ++ [d]
  | [] => one_ltP.mpr h
  | a :: p => lt_cons.mpr (.inr ⟨rfl, lt_app_same h p⟩)
theorem lt_app {s t : T} : ∀ {p q : T}, p.length = q.length → p < q → p ++ s < q ++ t
  | [], [], _, h => absurd h (lex_irrefl _)
  | [], b :: q, h, _ => absurd h (by simp)
  | a :: p, [], h, _ => absurd h (by simp)
  | a :: p, b :: q, hl, h => by
    rcases lt_cons.mp h with h | ⟨e, h⟩
    · exact lt_cons.mpr (.inl h)
    · exact lt_cons.mpr (.inr ⟨e, lt_app (by simpa using hl) h⟩)
theorem asc_ext {F : T → T} {k : Nat} : ∀ {ts : List T}, AscL ts → (∀ p ∈ ts, p.length = k) → (∀ p ∈ ts, AscT (F p)) → AscL (ts.flatMap fun p => (F p).map fun c => p ++ [c])
  | [], _, _, _ => .nil
  | p :: ts, h, hl, hF => by
    have h' := List.pairwise_cons.1 h
    rw [List.flatMap_cons]
    refine List.pairwise_append.mpr ⟨?_, asc_ext h'.2 (fun q hq => hl q (.tail _ hq)) (fun q hq => hF q (.tail _ hq)), fun x hx y hy => ?_⟩
    · exact List.pairwise_map.mpr ((hF p (.head _)).imp fun {a b} hab => lt_app_same hab p)
    · obtain ⟨c, _, rfl⟩ := List.mem_map.mp hx
      obtain ⟨q, hq, hy⟩ := List.mem_flatMap.mp hy
      obtain ⟨d, _, rfl⟩ := List.mem_map.mp hy
      exact lt_app (by rw [hl p (.head _), hl q (.tail _ hq)]) (h'.1 q hq)
theorem asc_pre {G : Nat → List T} : ∀ {l : T}, AscT l → (∀ c ∈ l, AscL (G c)) → AscL (l.flatMap fun c => (G c).map fun g => [c] ++ g)
  | [], _, _ => .nil
  | c :: l, h, hG => by
    have h' := List.pairwise_cons.1 h
    rw [List.flatMap_cons]
    refine List.pairwise_append.mpr ⟨?_, asc_pre h'.2 fun d hd => hG d (.tail _ hd), fun x hx y hy => ?_⟩
    · exact List.pairwise_map.mpr ((hG c (.head _)).imp fun {a b} hab => lt_cons.mpr (.inr ⟨rfl, hab⟩))
    · obtain ⟨g, _, rfl⟩ := List.mem_map.mp hx
      obtain ⟨d, hd, hy⟩ := List.mem_flatMap.mp hy
      obtain ⟨g2, _, rfl⟩ := List.mem_map.mp hy
      exact lt_cons.mpr (.inl (h'.1 d hd))
theorem asc_ones (h : AscT L) : AscL (L.map fun c => [c]) := List.pairwise_map.mpr (h.imp fun {a b} hab => one_ltP.mpr hab)
theorem asc_paths (hL : Lets L) : ∀ k, AscL (pathsAt L C k)
  | 0 => asc_ones hL.asc
  | k + 1 => asc_ext (F := fun p => (row L C (lastD p)).filter fun c => !decide (c ∈ p) && looseFrom L C c p.dropLast) (asc_paths hL k) (fun p hp => ((paths_ok hL.nd k).1 p hp).2.1)
    fun p _ => hL.asc.sublist (List.filter_sublist.trans List.filter_sublist)
theorem asc_layer (hL : Lets L) : ∀ k, AscL (layer L C k)
  | 0 => List.pairwise_singleton _ _
  | k + 1 => asc_ext (F := fun g => (laterOf L g).filter fun c => looseFrom L C c g) (asc_layer hL k) (fun p hp => ((layer_ok hL.nd k).1.1 p hp).2.1)
    fun p _ => hL.asc.sublist (List.filter_sublist.trans List.filter_sublist)
theorem head_min {ts us : List T} (h : AscL ts) (hm : ∀ x, x ∈ ts ↔ x ∈ us) : ts.head? = if us = [] then none else some (minL us) := by
  cases ts with
  | nil =>
    have e : us = [] := by
      cases us with
      | nil => rfl
      | cons a r => exact nomatch (hm a).mpr (.head _)
    rw [if_pos e]
    rfl
  | cons a r =>
    have ha : a ∈ us := (hm a).mp (.head _)
    rw [if_neg (List.ne_nil_of_mem ha)]
    show some a = _
    rw [minL_is ha fun y hy z => ?_]
    rcases List.mem_cons.mp ((hm y).mpr hy) with e | hy
    · subst e; exact lex_irrefl _ z
    · exact lexA z ((List.pairwise_cons.mp h).1 y hy)
theorem center_iff {c : Nat} {o : T} (hs : ∀ x ∈ o, x ∈ L) : center L C c o = true ↔ c ∉ o ∧ ∀ x ∈ o, clash C c x = true := by
  unfold center
  rw [Bool.and_eq_true, Bool.not_eq_true', decide_eq_false_iff_not, List.all_eq_true]
  refine and_congr_right fun _ => ⟨fun h x hx => ?_, fun h b hb => ?_⟩
  · exact (mem_rowC.mp (of_decide_eq_true (h _ (List.mem_map_of_mem hx)))).2
  · obtain ⟨x, hx, rfl⟩ := List.mem_map.mp hb
    exact decide_eq_true (mem_rowC.mpr ⟨hs x hx, h x hx⟩)
theorem near_all {c : Nat} {o : T} (hc : c ∉ o) : (lNear C c o).length = o.length ↔ ∀ x ∈ o, clash C c x = true := by
  unfold lNear
  rw [List.length_filter_eq_length_iff]
  refine ⟨fun h x hx => ?_, fun h x hx => ?_⟩
  · have := h x hx
    rw [Bool.and_eq_true] at this
    exact this.2
  · rw [h x hx, decide_eq_false fun e : x = c => hc (e ▸ hx)]
    rfl
theorem fans_eq (hL : Lets L) : fansOf L C = lFans L C := by
  unfold fansOf fourOf lFans
  rw [paths_eq hL.nd]
  refine (flat_if fun p hp => ?_).symm
  have hl := (lpaths_ok hL.nd 3).1 p hp
  unfold lFan1
  by_cases h : headD p < lastD p
  · rw [if_pos h, if_pos (decide_eq_true h)]
    congr 1
    refine filter_eq fun c hc => ?_
    rw [center_iff hl.2.2, Bool.and_eq_true, Bool.not_eq_true', decide_eq_false_iff_not, decide_eq_true_eq]
    refine and_congr_right fun hcp => ?_
    rw [← near_all hcp, hl.2.1]
  · rw [if_neg h, if_neg fun z => h (of_decide_eq_true z)]
theorem n_fan (hL : Lets L) : (fansOf L C).head? = if lFans L C = [] then none else some (minL (lFans L C)) := by
  refine head_min ?_ fun x => by rw [fans_eq hL]
  exact asc_ext (F := fun p => L.filter fun c => center L C c p) ((asc_paths hL 3).sublist List.filter_sublist) (fun p hp => ((paths_ok hL.nd 3).1 p (List.mem_filter.mp hp).1).2.1)
    fun p _ => hL.asc.sublist List.filter_sublist
theorem mem_one {p : T} : p ∈ layer L C 1 ↔ ∃ b, b ∈ L ∧ p = [b] := by
  show p ∈ moreOf L C [[]] ↔ _
  rw [mem_more]
  constructor
  · rintro ⟨g, hg, c, h1, _, _, e⟩
    rw [List.mem_singleton] at hg
    subst hg
    exact ⟨c, h1, e⟩
  · rintro ⟨b, hb, e⟩
    exact ⟨[], .head _, b, hb, .inl rfl, rfl, e⟩
theorem cl_false {a b : Nat} : clash C a b = false ↔ ¬ clash C a b = true := by cases clash C a b <;> simp
theorem mem_two {p : T} : p ∈ layer L C 2 ↔ ∃ b c, b ∈ L ∧ c ∈ L ∧ b < c ∧ clash C c b = false ∧ p = [b, c] := by
  show p ∈ moreOf L C (layer L C 1) ↔ _
  rw [mem_more]
  constructor
  · rintro ⟨g, hg, c, h1, h2, h3, e⟩
    obtain ⟨b, hb, rfl⟩ := mem_one.mp hg
    have h3 := (loose_iff (fun x hx => by rw [List.mem_singleton] at hx; exact hx ▸ hb)).mp h3
    rcases h2 with h2 | h2
    · cases h2
    · exact ⟨b, c, hb, h1, h2, h3 b (.head _), e⟩
  · rintro ⟨b, c, hb, hc, h1, h2, e⟩
    refine ⟨[b], mem_one.mpr ⟨b, hb, rfl⟩, c, hc, .inr h1, (loose_iff fun x hx => by rw [List.mem_singleton] at hx; exact hx ▸ hb).mpr fun x hx => ?_, e⟩
    rw [List.mem_singleton] at hx
    subst hx
    exact h2
theorem mem_three {p : T} : p ∈ layer L C 3 ↔ ∃ b c d, b ∈ L ∧ c ∈ L ∧ d ∈ L ∧ b < c ∧ c < d ∧ clash C c b = false ∧ clash C d b = false ∧ clash C d c = false ∧ p = [b, c, d] := by
  show p ∈ moreOf L C (layer L C 2) ↔ _
  rw [mem_more]
  have two : ∀ {P : Nat → Prop} {b c : Nat}, (∀ x ∈ ([b, c] : T), P x) ↔ P b ∧ P c := fun {P b c} => by simp
  constructor
  · rintro ⟨g, hg, d, h1, h2, h3, e⟩
    obtain ⟨b, c, hb, hc, k1, k2, rfl⟩ := mem_two.mp hg
    have h3 := two.mp ((loose_iff (two.mpr ⟨hb, hc⟩)).mp h3)
    rcases h2 with h2 | h2
    · cases h2
    · exact ⟨b, c, d, hb, hc, h1, k1, h2, k2, h3.1, h3.2, e⟩
  · rintro ⟨b, c, d, hb, hc, hd, k1, k2, k3, k4, k5, e⟩
    exact ⟨[b, c], mem_two.mpr ⟨b, c, hb, hc, k1, k3, rfl⟩, d, hd, .inr k2, (loose_iff (two.mpr ⟨hb, hc⟩)).mpr (two.mpr ⟨k4, k5⟩), e⟩
theorem mem_near {a b : Nat} : b ∈ lNear C a L ↔ b ∈ L ∧ b ≠ a ∧ clash C a b = true := by
  unfold lNear
  rw [List.mem_filter, Bool.and_eq_true, Bool.not_eq_true', decide_eq_false_iff_not]
theorem pairs_of {n : T} (h : AscT n) {b c : Nat} : (∃ i, (b, i) ∈ n.zipIdx ∧ c ∈ n.drop (i + 1)) ↔ b ∈ n ∧ c ∈ n ∧ b < c := by
  constructor
  · rintro ⟨i, h1, h2⟩
    obtain ⟨h3, h4⟩ := mem_zipIdx h1
    have h4 : b = atO n i := h4
    have h5 := h.sublist (List.drop_sublist i n)
    rw [drop_at h3, ← h4] at h5
    exact ⟨h4 ▸ atO_mem h3, List.mem_of_mem_drop h2, (List.pairwise_cons.mp h5).1 c h2⟩
  · rintro ⟨h1, h2, h3⟩
    obtain ⟨s, t, e⟩ := List.append_of_mem h1
    subst e
    refine ⟨s.length, ?_, ?_⟩
    · rw [List.zipIdx_append, List.zipIdx_cons]
      refine List.mem_append_right _ ?_
      rw [Nat.zero_add]
      exact .head _
    · have e : (s ++ b :: t).drop (s.length + 1) = t := by
        rw [← List.drop_drop, List.drop_left]; rfl
      rw [e]
      rcases List.mem_append.mp h2 with k | k
      · have := (List.pairwise_append.mp h).2.2 c k b (.head _)
        omega
      · rcases List.mem_cons.mp k with k | k
        · omega
        · exact k
theorem mem_claws (hL : Lets L) {x : T} : x ∈ clawsOf L C ↔ x ∈ lClaws L C := by
  unfold clawsOf
  rw [triples_eq hL.nd]
  have three : ∀ {P : Nat → Prop} {b c d : Nat}, (∀ x ∈ ([b, c, d] : T), P x) ↔ P b ∧ P c ∧ P d := fun {P b c d} => by simp
  have two : ∀ {P : Nat → Prop} {b c : Nat}, (∀ x ∈ ([b, c] : T), P x) ↔ P b ∧ P c := fun {P b c} => by simp
  constructor
  · intro h
    obtain ⟨a, ha, h⟩ := List.mem_flatMap.mp h
    obtain ⟨g, hg, rfl⟩ := List.mem_map.mp h
    obtain ⟨hg, hc⟩ := List.mem_filter.mp hg
    obtain ⟨b, c, d, hb, hcc, hd, k1, k2, k3, k4, k5, rfl⟩ := mem_three.mp hg
    obtain ⟨n1, n2⟩ := (center_iff (three.mpr ⟨hb, hcc, hd⟩)).mp hc
    have n2 := three.mp n2
    simp only [List.mem_cons, List.not_mem_nil, or_false, not_or] at n1
    have mb : b ∈ lNear C a L := mem_near.mpr ⟨hb, fun e => n1.1 e.symm, n2.1⟩
    have mc : c ∈ lNear C a L := mem_near.mpr ⟨hcc, fun e => n1.2.1 e.symm, n2.2.1⟩
    have md : d ∈ lNear C a L := mem_near.mpr ⟨hd, fun e => n1.2.2 e.symm, n2.2.2⟩
    refine List.mem_flatMap.mpr ⟨a, ha, ?_⟩
    obtain ⟨i, z1, z2⟩ := (pairs_of (hL.asc.sublist List.filter_sublist)).mpr ⟨mb, mc, k1⟩
    refine List.mem_flatMap.mpr ⟨(b, i), z1, List.mem_flatMap.mpr ⟨c, z2, ?_⟩⟩
    unfold lClaw2
    rw [if_neg (by rw [clash_symm, k3]; decide)]
    refine List.mem_map.mpr ⟨d, List.mem_filter.mpr ⟨md, ?_⟩, rfl⟩
    rw [decide_eq_true k2, Bool.true_and, decide_eq_true_eq, lnear_nil (by simp; omega)]
    exact two.mpr ⟨k4, k5⟩
  · intro h
    obtain ⟨a, ha, h⟩ := List.mem_flatMap.mp h
    obtain ⟨⟨b, i⟩, z1, h⟩ := List.mem_flatMap.mp h
    obtain ⟨c, z2, h⟩ := List.mem_flatMap.mp h
    obtain ⟨mb, mc, k1⟩ := (pairs_of (hL.asc.sublist List.filter_sublist)).mp ⟨i, z1, z2⟩
    unfold lClaw2 at h
    split at h
    · cases h
    rename_i hbc
    obtain ⟨d, hd, rfl⟩ := List.mem_map.mp h
    obtain ⟨md, hd⟩ := List.mem_filter.mp hd
    rw [Bool.and_eq_true, decide_eq_true_eq, decide_eq_true_eq] at hd
    have k2 := hd.1
    have hn := two.mp ((lnear_nil (by simp; omega)).mp hd.2)
    have nb := mem_near.mp mb
    have nc := mem_near.mp mc
    have nd := mem_near.mp md
    refine List.mem_flatMap.mpr ⟨a, ha, List.mem_map.mpr ⟨[b, c, d], List.mem_filter.mpr ⟨mem_three.mpr ⟨b, c, d, nb.1, nc.1, nd.1, k1, k2, ?_, hn.1, hn.2, rfl⟩, ?_⟩, rfl⟩⟩
    · rw [clash_symm]
      exact cl_false.mpr hbc
    · refine (center_iff (three.mpr ⟨nb.1, nc.1, nd.1⟩)).mpr ⟨?_, three.mpr ⟨nb.2.2, nc.2.2, nd.2.2⟩⟩
      simp only [List.mem_cons, List.not_mem_nil, or_false, not_or]
      exact ⟨fun e => nb.2.1 e.symm, fun e => nc.2.1 e.symm, fun e => nd.2.1 e.symm⟩
theorem n_claw (hL : Lets L) : (clawsOf L C).head? = if lClaws L C = [] then none else some (minL (lClaws L C)) := by
  refine head_min ?_ fun x => mem_claws hL
  unfold clawsOf
  rw [triples_eq hL.nd]
  exact asc_pre (G := fun c => (layer L C 3).filter fun g => center L C c g) hL.asc fun c _ => (asc_layer hL 3).sublist List.filter_sublist
end
end WW

/-! the law's mathematics: a set of letters of which none may come first holds a ring -/
namespace WW
section
variable {L : T} {C : List T}
/-- neighbours in p conflict, all others do not -/
def Ip (C : List T) : T → Prop
  | [] => True
  | [_] => True
  | a :: b :: s => clash C a b = true ∧ (∀ c ∈ s, clash C a c = false) ∧ Ip C (b :: s)
theorem last_cons {a b : Nat} {s : T} : lastD (a :: b :: s) = lastD (b :: s) := by
  unfold lastD
  simp
theorem last_snoc {p : T} {c : Nat} : lastD (p ++ [c]) = c := by
  unfold lastD
  simp
theorem ip_tail {a : Nat} {p : T} (h : Ip C (a :: p)) : Ip C p := by
  cases p with
  | nil => exact True.intro
  | cons b s => exact h.2.2
theorem ip_suffix : ∀ {q p : T}, Ip C (q ++ p) → Ip C p
  | [], _, h => h
  | a :: q, p, h => ip_suffix (q := q) (ip_tail h)
theorem ip_snoc {c : Nat} : ∀ {p : T}, p ≠ [] → (Ip C (p ++ [c]) ↔ Ip C p ∧ clash C (lastD p) c = true ∧ ∀ x ∈ p.dropLast, clash C x c = false)
  | [], h => absurd rfl h
  | [a], _ => by
    show (clash C a c = true ∧ (∀ x ∈ ([] : T), clash C a x = false) ∧ True) ↔ True ∧ clash C a c = true ∧ ∀ x ∈ ([] : T), clash C x c = false
    exact ⟨fun ⟨h, _⟩ => ⟨True.intro, h, fun x hx => nomatch hx⟩, fun ⟨_, h, _⟩ => ⟨h, fun x hx => (nomatch hx), True.intro⟩⟩
  | a :: b :: s, _ => by
    have ih := ip_snoc (c := c) (p := b :: s) (fun z => nomatch z)
    show (clash C a b = true ∧ (∀ x ∈ s ++ [c], clash C a x = false) ∧ Ip C ((b :: s) ++ [c])) ↔ (clash C a b = true ∧ (∀ x ∈ s, clash C a x = false) ∧ Ip C (b :: s)) ∧ clash C (lastD (a :: b :: s)) c = true ∧ ∀ x ∈ a :: (b :: s).dropLast, clash C x c = false
    rw [ih, last_cons]
    constructor
    · rintro ⟨h1, h2, h3, h4, h5⟩
      refine ⟨⟨h1, fun x hx => h2 x (List.mem_append_left _ hx), h3⟩, h4, fun x hx => ?_⟩
      rcases List.mem_cons.1 hx with e | hx
      · exact e ▸ h2 c (List.mem_append_right _ (.head _))
      · exact h5 x hx
    · rintro ⟨⟨h1, h2, h3⟩, h4, h5⟩
      refine ⟨h1, fun x hx => ?_, h3, h4, fun x hx => h5 x (.tail _ hx)⟩
      rcases List.mem_append.1 hx with hx | hx
      · exact h2 x hx
      · rw [List.mem_singleton] at hx
        exact hx ▸ h5 a (.head _)
theorem ip_rev : ∀ {p : T}, Ip C p → Ip C p.reverse
  | [], _ => True.intro
  | [_], _ => True.intro
  | a :: b :: s, h => by
    have ih := ip_rev h.2.2
    rw [List.reverse_cons]
    rw [List.reverse_cons] at ih ⊢
    refine (ip_snoc (by simp)).mpr ⟨ih, ?_, fun x hx => ?_⟩
    · rw [last_snoc]; exact clash_sw h.1
    · rw [List.dropLast_concat] at hx
      rw [clash_symm]
      exact h.2.1 x (List.mem_reverse.mp hx)
theorem ip_nodup : ∀ {p : T}, Ip C p → 3 ≤ p.length → p.Nodup
  | [], _, h => absurd h (by decide)
  | [_], _, h => absurd h (by simp)
  | [_, _], _, h => absurd h (by simp)
  | a :: b :: d :: s, h, _ => by
    have h1 : clash C a b = true := h.1
    have h2 : clash C a d = false := h.2.1 d (.head _)
    have h3 : Ip C (b :: d :: s) := h.2.2
    have h4 : clash C b d = true := h3.1
    refine List.nodup_cons.mpr ⟨fun hm => ?_, ?_⟩
    · rcases List.mem_cons.1 hm with e | hm
      · subst e; rw [h2] at h4; cases h4
      · have := h.2.1 a hm
        rw [clash_refl] at this
        cases this
    · by_cases hs : s = []
      · subst hs
        refine List.nodup_cons.mpr ⟨fun hm => ?_, by simp⟩
        rw [List.mem_singleton] at hm
        subst hm
        rw [h1] at h2
        cases h2
      · refine ip_nodup h3 ?_
        have := List.length_pos_iff.mpr hs
        rw [List.length_cons]; rw [List.length_cons]
        omega
theorem snoc_of {p : T} (h : p ≠ []) : p = p.dropLast ++ [lastD p] := by
  have e2 : lastD p = p.getLast h := by
    unfold lastD
    rw [List.getLastD_eq_getLast?, List.getLast?_eq_getLast h]
    rfl
  rw [e2]
  exact (List.dropLast_concat_getLast h).symm
theorem mem_lpaths : ∀ {k : Nat} {p : T}, p ∈ lPaths L C k ↔ p.length = k + 1 ∧ p.Nodup ∧ (∀ x ∈ p, x ∈ L) ∧ Ip C p
  | 0, p => by
    constructor
    · intro h
      obtain ⟨c, hc, rfl⟩ := List.mem_map.mp h
      exact ⟨rfl, by simp, fun x hx => by rw [List.mem_singleton] at hx; exact hx ▸ hc, True.intro⟩
    · rintro ⟨h1, _, h2, _⟩
      match p, h1 with
      | [c], _ => exact List.mem_map.mpr ⟨c, h2 c (.head _), rfl⟩
  | k + 1, p => by
    show p ∈ lBareOf L C (lPaths L C k) ↔ _
    rw [mem_lbare]
    constructor
    · rintro ⟨g, hg, c, h1, h2, h3, h4, rfl⟩
      obtain ⟨g1, g2, g3, g4⟩ := mem_lpaths.mp hg
      refine ⟨by rw [List.length_append, g1]; rfl, nodup_snoc g2 h2, fun x hx => ?_, (ip_snoc (List.ne_nil_of_length_pos (by omega))).mpr ⟨g4, h3, h4⟩⟩
      rcases List.mem_append.1 hx with hx | hx
      · exact g3 x hx
      · rw [List.mem_singleton] at hx
        exact hx ▸ h1
    · rintro ⟨h1, h2, h3, h4⟩
      have e := snoc_of (List.ne_nil_of_length_pos (by omega) : p ≠ [])
      have hl : p.dropLast.length = k + 1 := by rw [List.length_dropLast]; omega
      have hne : p.dropLast ≠ [] := List.ne_nil_of_length_pos (by omega)
      rw [e] at h2 h4
      have h2' := List.nodup_append.mp h2
      have h4' := (ip_snoc hne).mp h4
      refine ⟨p.dropLast, mem_lpaths.mpr ⟨hl, h2'.1, fun x hx => h3 x (mem_dl hx), h4'.1⟩, lastD p, h3 _ (lastD_mem (List.ne_nil_of_length_pos (by omega))), fun hm => h2'.2.2 _ hm _ (.head _) rfl, h4'.2.1, h4'.2.2, e⟩
/-- c closes p to a ring -/
structure Rg (C : List T) (p : T) (c : Nat) : Prop where
  ip : Ip C p
  le : 3 ≤ p.length
  hd : clash C c (headD p) = true
  la : clash C c (lastD p) = true
  no : ∀ x ∈ (p.drop 1).dropLast, clash C c x = false
  nd : (p ++ [c]).Nodup
def Rn (C : List T) (r : T) : Prop := ∃ p c, r = p ++ [c] ∧ Rg C p c
theorem rn_rot {x : Nat} {r : T} (h : Rn C (x :: r)) : Rn C (r ++ [x]) := by
  obtain ⟨p, c, e, h⟩ := h
  have hle := h.le
  match p, hle with
  | a :: b :: s, hle =>
    injection e with e1 e2
    subst e1 e2
    have hs : s ≠ [] := fun z => by subst z; simp at hle
    refine ⟨(b :: s) ++ [c], x, rfl, (ip_snoc (p := b :: s) (List.cons_ne_nil _ _)).mpr ⟨h.ip.2.2, ?_, fun y hy => ?_⟩, by simp; simp at hle; omega, clash_sw (clash_sw h.ip.1), ?_, fun y hy => ?_, ?_⟩
    · rw [← last_cons]; exact clash_sw h.la
    · rw [clash_symm]; exact h.no y hy
    · rw [last_snoc]; exact clash_sw h.hd
    · have hy : y ∈ (s ++ [c]).dropLast := hy
      rw [List.dropLast_concat] at hy
      exact h.ip.2.1 y hy
    · exact (List.perm_append_singleton x ((b :: s) ++ [c])).nodup_iff.mpr h.nd
theorem rn_to {m : Nat} : ∀ {s t : T}, Rn C (s ++ m :: t) → Rn C (m :: (t ++ s))
  | [], t, h => by rw [List.append_nil]; exact h
  | x :: s, t, h => by
    have h2 := rn_rot (C := C) (x := x) (r := s ++ m :: t) h
    rw [List.append_assoc] at h2
    have h3 := rn_to (s := s) (t := t ++ [x]) h2
    rw [List.append_assoc] at h3
    exact h3
theorem rn_rev {r : T} (h : Rn C r) : Rn C r.reverse := by
  obtain ⟨p, c, rfl, h⟩ := h
  have hle := h.le
  match p, hle with
  | a :: b :: s, hle =>
    have hs : s ≠ [] := fun z => by subst z; simp at hle
    have es := snoc_of hs
    generalize hq : s.dropLast = q at es
    generalize hd : lastD s = d at es
    subst es
    have no : ∀ x ∈ b :: q, clash C c x = false := fun x hx => h.no x (by
      show x ∈ (b :: (q ++ [d])).dropLast
      rw [← List.cons_append, List.dropLast_concat]
      exact hx)
    have e : ((a :: b :: (q ++ [d])) ++ [c]).reverse = (c :: d :: (q.reverse ++ [b])) ++ [a] := by simp
    have lad : lastD (a :: b :: (q ++ [d])) = d := by
      rw [← List.cons_append, ← List.cons_append, last_snoc]
    have hla := h.la
    rw [lad] at hla
    have irev := ip_rev h.ip.2.2
    have e2 : (b :: (q ++ [d])).reverse = d :: (q.reverse ++ [b]) := by simp
    rw [e2] at irev
    refine ⟨c :: d :: (q.reverse ++ [b]), a, e, ⟨hla, fun x hx => ?_, irev⟩, by simp, ?_, ?_, fun x hx => ?_, ?_⟩
    · refine no x ?_
      rcases List.mem_append.1 hx with hx | hx
      · exact .tail _ (List.mem_reverse.mp hx)
      · rw [List.mem_singleton] at hx
        exact hx ▸ .head _
    · exact clash_sw h.hd
    · rw [← List.cons_append, ← List.cons_append, last_snoc]
      exact h.ip.1
    · have hx : x ∈ (d :: (q.reverse ++ [b])).dropLast := hx
      rw [← List.cons_append, List.dropLast_concat] at hx
      refine h.ip.2.1 x ?_
      rcases List.mem_cons.mp hx with ex | hx
      · exact ex ▸ List.mem_append_right _ (.head _)
      · exact List.mem_append_left _ (List.mem_reverse.mp hx)
    · rw [← e]
      exact (List.reverse_perm _).nodup_iff.mpr h.nd
theorem rg_in {k : Nat} {p : T} {c : Nat} (hp : p ∈ lPaths L C (k + 2)) (hc : c ∈ L) (h : Rg C p c) (hm : ∀ x ∈ p.drop 1, headD p < x) (ho : secD p < c) : p ++ [c] ∈ lRingsAt L C k := by
  have hn : p.Nodup := (mem_lpaths.mp hp).2.1
  have hcp : c ∉ p := fun z => (List.nodup_append.mp h.nd).2.2 c z c (.head _) rfl
  refine List.mem_flatMap.mpr ⟨p, hp, ?_⟩
  unfold lRing1
  rw [if_pos ((lf_min hn).mp (lf_iff.mpr hm))]
  refine List.mem_map.mpr ⟨c, List.mem_filter.mpr ⟨List.mem_filter.mpr ⟨List.mem_filter.mpr ⟨hc, ?_⟩, ?_⟩, ?_⟩, rfl⟩
  · rw [decide_eq_true ho, decide_eq_false hcp]; rfl
  · rw [h.hd, h.la]; rfl
  · exact decide_eq_true ((lnear_nil fun z => hcp (inner_sub c z)).mpr h.no)
theorem rn_ring (hL : L.Nodup) {r : T} (h : Rn C r) (hs : ∀ x ∈ r, x ∈ L) : ∃ k, lRingsAt L C k ≠ [] := by
  have hne : r ≠ [] := by
    obtain ⟨p, c, rfl, _⟩ := h
    simp
  have hm := minT_mem hne
  obtain ⟨s, t, e⟩ := List.append_of_mem hm
  have h2 := rn_to (C := C) (s := s) (t := t) (m := minT r) (e ▸ h)
  have mem2 : ∀ x, x ∈ minT r :: (t ++ s) → x ∈ r := fun x hx => by
    rw [e]
    rcases List.mem_cons.mp hx with k | k
    · exact List.mem_append_right _ (k ▸ .head _)
    · rcases List.mem_append.mp k with k | k
      · exact List.mem_append_right _ (.tail _ k)
      · exact List.mem_append_left _ k
  generalize t ++ s = q at h2 mem2
  generalize hmm : minT r = m at h2 mem2
  have fin : ∀ {b c : Nat} {s : T}, Rn C (m :: ((b :: s) ++ [c])) → (∀ x ∈ m :: ((b :: s) ++ [c]), x ∈ r) → b < c → ∃ k, lRingsAt L C k ≠ [] := fun {b c s} h hr hbc => by
    obtain ⟨p, d, ep, h⟩ := h
    have ep2 : (m :: b :: s) ++ [c] = p ++ [d] := ep
    obtain ⟨e1, e2⟩ := List.append_inj' ep2 rfl
    injection e2 with e2
    subst e1 e2
    have hnd := h.nd
    have hle := h.le
    refine ⟨(m :: b :: s).length - 3, List.ne_nil_of_mem (rg_in (p := m :: b :: s) (c := c) (mem_lpaths.mpr ⟨by omega, (List.nodup_append.mp hnd).1, fun x hx => hs x (hr x (List.mem_append_left _ hx)), h.ip⟩) (hs c (hr c (List.mem_append_right (m :: b :: s) (.head _)))) h (fun x hx => ?_) hbc)⟩
    have hx : x ∈ b :: s := hx
    have h3 : minT r ≤ x := minT_le (hr x (List.mem_append_left [c] (.tail m hx)))
    have h4 := (List.nodup_cons.mp (List.nodup_append.mp hnd).1).1
    show m < x
    rw [hmm] at h3
    by_cases ex : m = x
    · subst ex; exact absurd hx h4
    · omega
  obtain ⟨p, c, ep, hp⟩ := h2
  have hle := hp.le
  match p, hle with
  | a :: b :: s, hle =>
    injection ep with e1 e2
    subst e1 e2
    by_cases hbc : b < c
    · exact fin ⟨_, _, rfl, hp⟩ mem2 hbc
    · have hr := rn_rev (rn_rot (⟨_, _, rfl, hp⟩ : Rn C (m :: ((b :: s) ++ [c]))))
      have er : (((b :: s) ++ [c]) ++ [m]).reverse = m :: ((c :: s.reverse) ++ [b]) := by simp
      rw [er] at hr
      refine fin hr (fun x hx => mem2 x ?_) ?_
      · show x ∈ m :: ((b :: s) ++ [c])
        simp only [List.mem_cons, List.mem_append, List.mem_reverse, List.not_mem_nil, or_false] at hx ⊢
        rcases hx with k | (k | k) | k
        · exact .inl k
        · exact .inr (.inr k)
        · exact .inr (.inl (.inr k))
        · exact .inr (.inl (.inl k))
      · have hnd := hp.nd
        have : b ≠ c := fun z => by
          subst z
          exact (List.nodup_append.mp hnd).2.2 b (.tail _ (.head _)) b (.head _) rfl
        omega
theorem ring_rn {k : Nat} {r : T} (h : r ∈ lRingsAt L C k) : Rn C r ∧ ∀ x ∈ r, x ∈ L := by
  obtain ⟨p, hp, h⟩ := List.mem_flatMap.mp h
  obtain ⟨p1, p2, p3, p4⟩ := mem_lpaths.mp hp
  unfold lRing1 at h
  split at h
  · obtain ⟨c, hc, rfl⟩ := List.mem_map.mp h
    obtain ⟨h1, h2⟩ := List.mem_filter.mp hc
    obtain ⟨h3, h4⟩ := List.mem_filter.mp h1
    obtain ⟨h5, h6⟩ := List.mem_filter.mp h3
    simp only [Bool.and_eq_true, Bool.not_eq_true', decide_eq_false_iff_not, decide_eq_true_eq] at h2 h4 h6
    refine ⟨⟨p, c, rfl, p4, by omega, h4.1, h4.2, (lnear_nil fun z => h6.2 (inner_sub c z)).mp h2, nodup_snoc p2 h6.2⟩, fun x hx => ?_⟩
    rcases List.mem_append.1 hx with hx | hx
    · exact p3 x hx
    · rw [List.mem_singleton] at hx
      exact hx ▸ h5
  · cases h
/-- in a ring none may come first -/
theorem rn_simp {r : T} (h : Rn C r) {z : Nat} (hz : z ∈ r) : ¬ Simp C z r := fun hs => by
  obtain ⟨s, t, e⟩ := List.append_of_mem hz
  subst e
  obtain ⟨p, c, ep, hp⟩ := rn_to h
  have hle := hp.le
  match p, hle with
  | a :: b :: q, hle =>
    have e3 := (List.cons.inj ep).1
    have e4 : t ++ s = (b :: q) ++ [c] := (List.cons.inj ep).2
    subst e3
    have hq : q ≠ [] := fun z => by subst z; simp at hle
    have mem : ∀ x, x ∈ (b :: q) ++ [c] → x ∈ s ++ z :: t := fun x hx => by
      rw [← e4] at hx
      rcases List.mem_append.mp hx with k | k
      · exact List.mem_append_right _ (.tail _ k)
      · exact List.mem_append_left _ k
    have := hs b (mem b (.head _)) c (mem c (List.mem_append_right _ (.head _))) hp.ip.1 (clash_sw hp.hd)
    rw [clash_symm, hp.no b ?_] at this
    · cases this
    · cases q with
      | nil => exact absurd rfl hq
      | cons d q => exact .head _
theorem gr_first {Z : T} : ∀ {o : T}, Gr C o → Z ≠ [] → (∀ x ∈ Z, x ∈ o) → ∃ z ∈ Z, Simp C z Z
  | [], _, hne, hs => by
    obtain ⟨x, hx⟩ := List.exists_mem_of_ne_nil Z hne
    exact nomatch hs x hx
  | a :: r, h, hne, hs => by
    by_cases ha : a ∈ Z
    · exact ⟨a, ha, simp_sub h.1 hs⟩
    · refine gr_first h.2.2 hne fun x hx => ?_
      rcases List.mem_cons.mp (hs x hx) with e | k
      · exact absurd (e ▸ hx) ha
      · exact k
end
end WW

/-! the law's mathematics: without a ring some letter may come first -/
namespace WW
section
variable {L : T} {C : List T}
/-- a in front of a bare path to whose letters it conflicts: cut short -/
theorem ip_cut {a b : Nat} {q : T} (h : Ip C (b :: q)) (hab : clash C a b = true) : ∃ q1 c q2, b :: q = q1 ++ c :: q2 ∧ clash C a c = true ∧ Ip C (a :: c :: q2) := by
  obtain ⟨q1, c, q2, e, h1, h2⟩ := last_of (p := fun x => clash C a x = true) (q := b :: q) ⟨b, .head _, hab⟩
  exact ⟨q1, c, q2, e, h1, h1, fun d hd => cl_false.mpr (h2 d hd), ip_suffix (q := q1) (e ▸ h)⟩
theorem dl_mid {q1 q2 : T} {c : Nat} : (q1 ++ c :: q2).dropLast = q1 ++ (c :: q2).dropLast := by
  rw [List.dropLast_append_of_ne_nil (by simp)]
theorem la_mid {q2 : T} {c : Nat} : ∀ {q1 : T}, lastD (q1 ++ c :: q2) = lastD (c :: q2)
  | [] => rfl
  | [a] => last_cons
  | a :: b :: q => by
    rw [List.cons_append, List.cons_append, last_cons]
    exact la_mid (q1 := b :: q)
/-- what is reached from u in M -/
inductive Rc (C : List T) (M : Nat → Prop) (u : Nat) : Nat → Prop
  | base : Rc C M u u
  | step {a b : Nat} : Rc C M u a → M b → clash C a b = true → Rc C M u b
theorem rc_in {M : Nat → Prop} {u b : Nat} (hu : M u) (h : Rc C M u b) : M b := by
  cases h with
  | base => exact hu
  | step _ h _ => exact h
theorem rc_move {M P : Nat → Prop} {u b : Nat} (hu : M u) (hP : ∀ a b, M a → clash C a b = true → P b → P a) (h : Rc C M u b) : (P b → P u) ∧ (P u → P b) := by
  induction h with
  | base => exact ⟨id, id⟩
  | step ha hb hc ih => exact ⟨fun k => ih.1 (hP _ _ (rc_in hu ha) hc k), fun k => hP _ _ hb (clash_sw hc) (ih.2 k)⟩
/-- two letters next to v and next to what is reached, apart from one another: a ring -/
theorem sep_ring {U : T} {v u x y bx bY : Nat} (hv : v ∈ U) (hx : x ∈ U) (hy : y ∈ U) (hu : u ∈ U ∧ clash C v u = false) (vx : clash C v x = true) (vy : clash C v y = true)
    (rx : Rc C (fun z => z ∈ U ∧ clash C v z = false) u bx) (ry : Rc C (fun z => z ∈ U ∧ clash C v z = false) u bY) (cx : clash C x bx = true) (cy : clash C y bY = true) (hxy : clash C x y = false) : ∃ r, Rn C r ∧ ∀ z ∈ r, z ∈ U := by
  let M : Nat → Prop := fun z => z ∈ U ∧ clash C v z = false
  let P : Nat → Prop := fun b => ∃ q, Ip C (b :: q) ∧ lastD (b :: q) = y ∧ ∀ z ∈ (b :: q).dropLast, M z
  have hP : ∀ a b, M a → clash C a b = true → P b → P a := fun a b ha hab hb => by
    obtain ⟨q, h1, h2, h3⟩ := hb
    obtain ⟨q1, c, q2, e, k1, k2⟩ := ip_cut h1 hab
    refine ⟨c :: q2, k2, ?_, fun z hz => ?_⟩
    · rw [last_cons, ← h2, e, la_mid]
    · have hz : z ∈ a :: (c :: q2).dropLast := hz
      rcases List.mem_cons.mp hz with k | k
      · exact k ▸ ha
      · refine h3 z ?_
        rw [e, dl_mid]
        exact List.mem_append_right _ k
  have mby : M bY := rc_in hu ry
  have mbx : M bx := rc_in hu rx
  have p0 : P bY := ⟨[y], ⟨clash_sw cy, fun c hc => (nomatch hc), True.intro⟩, rfl, fun z hz => by
    have hz : z ∈ [bY] := hz
    rw [List.mem_singleton] at hz
    exact hz ▸ mby⟩
  obtain ⟨q, h1, h2, h3⟩ := (rc_move hu hP rx).2 ((rc_move hu hP ry).1 p0)
  obtain ⟨q1, c, q2, e, k1, k2⟩ := ip_cut h1 cx
  have la : lastD (c :: q2) = y := by rw [← h2, e, la_mid]
  have inn : ∀ z ∈ (c :: q2).dropLast, M z := fun z hz => h3 z (by rw [e, dl_mid]; exact List.mem_append_right _ hz)
  have hq2 : q2 ≠ [] := fun z => by
    subst z
    have : c = y := la
    subst this
    rw [hxy] at k1
    cases k1
  have hall : ∀ z ∈ c :: q2, M z ∨ z = y := fun z hz => by
    have es := snoc_of (p := c :: q2) (fun z => nomatch z)
    rw [es] at hz
    rcases List.mem_append.mp hz with k | k
    · exact .inl (inn z k)
    · rw [List.mem_singleton, la] at k
      exact .inr k
  have hle : 3 ≤ (x :: c :: q2).length := by
    have := List.length_pos_iff.mpr hq2
    rw [List.length_cons]; rw [List.length_cons]
    omega
  have nvx : v ≠ x := fun z => by
    subst z
    rw [mbx.2] at cx
    cases cx
  have nvy : v ≠ y := fun z => by
    subst z
    rw [mby.2] at cy
    cases cy
  have nvm : ∀ z, M z → v ≠ z := fun z hz e => by
    subst e
    have := hz.2
    rw [clash_refl] at this
    cases this
  refine ⟨(x :: c :: q2) ++ [v], ⟨x :: c :: q2, v, rfl, k2, hle, vx, ?_, fun z hz => (inn z hz).2, ?_⟩, fun z hz => ?_⟩
  · rw [last_cons, la]; exact vy
  · refine nodup_snoc (ip_nodup k2 hle) fun hm => ?_
    rcases List.mem_cons.mp hm with k | k
    · exact nvx k
    · rcases hall v k with k | k
      · exact nvm v k rfl
      · exact nvy k
  · rcases List.mem_append.mp hz with k | k
    · rcases List.mem_cons.mp k with k | k
      · exact k ▸ hx
      · rcases hall z k with k | k
        · exact k.1
        · exact k ▸ hy
    · rw [List.mem_singleton] at k
      exact k ▸ hv
open Classical in
theorem chordal : ∀ (n : Nat) (U : T), U.length ≤ n → U.Nodup → (∀ r, Rn C r → ¬ ∀ z ∈ r, z ∈ U) → ∀ v ∈ U, ∀ u ∈ U, clash C v u = false → ∃ w ∈ U, Simp C w U ∧ clash C v w = false
  | 0, U, hn, _, _, v, hv, _, _, _ => by
    have := List.length_pos_of_mem hv
    omega
  | n + 1, U, hn, hnd, hno, v, hv, u, hu, hvu => by
    let M : Nat → Prop := fun z => z ∈ U ∧ clash C v z = false
    have hMu : M u := ⟨hu, hvu⟩
    let B : Nat → Prop := Rc C M u
    let S : Nat → Prop := fun x => x ∈ U ∧ clash C v x = true ∧ ∃ b, B b ∧ clash C x b = true
    let W : T := U.filter fun x => decide (B x ∨ S x)
    have mW : ∀ {x}, x ∈ W ↔ x ∈ U ∧ (B x ∨ S x) := fun {x} => by
      rw [List.mem_filter, decide_eq_true_eq]
    have bM : ∀ {x}, B x → M x := fun h => rc_in hMu h
    have bW : ∀ {x}, B x → x ∈ W := fun {x} h => mW.mpr ⟨(bM h).1, .inl h⟩
    have sW : ∀ {x}, S x → x ∈ W := fun {x} h => mW.mpr ⟨h.1, .inr h⟩
    have hvW : v ∉ W := fun h => by
      rcases (mW.mp h).2 with k | ⟨_, _, b, hb, k⟩
      · have := (bM k).2
        rw [clash_refl] at this
        cases this
      · rw [(bM hb).2] at k
        cases k
    have ndW : W.Nodup := hnd.filter _
    have hWl : W.length ≤ n := by
      have := nodup_sub_len (a := v :: W) (b := U) (List.nodup_cons.mpr ⟨hvW, ndW⟩) fun x hx => by
        rcases List.mem_cons.mp hx with k | k
        · exact k ▸ hv
        · exact (mW.mp k).1
      rw [List.length_cons] at this
      omega
    have hSc : ∀ x y, S x → S y → clash C x y = true := fun x y hx hy => by
      cases hz : clash C x y with
      | true => rfl
      | false =>
        obtain ⟨x1, x2, bx, x3, x4⟩ := hx
        obtain ⟨y1, y2, bY, y3, y4⟩ := hy
        obtain ⟨r, h1, h2⟩ := sep_ring hv x1 y1 hMu x2 y2 x3 y3 x4 y4 hz
        exact absurd h2 (hno r h1)
    have nbr : ∀ {w x}, B w → x ∈ U → clash C w x = true → x ∈ W := fun {w x} hw hx h => by
      cases hz : clash C v x with
      | true => exact sW ⟨hx, hz, w, hw, clash_sw h⟩
      | false => exact bW (.step hw ⟨hx, hz⟩ h)
    have up : ∀ {w}, B w → Simp C w W → ∃ w ∈ U, Simp C w U ∧ clash C v w = false := fun {w} hw hs =>
      ⟨w, (bM hw).1, fun x hx y hy h1 h2 => hs x (nbr hw hx h1) y (nbr hw hy h2) h1 h2, (bM hw).2⟩
    have hnoW : ∀ r, Rn C r → ¬ ∀ z ∈ r, z ∈ W := fun r hr h => hno r hr fun z hz => (mW.mp (h z hz)).1
    by_cases h1 : ∃ s t, S s ∧ t ∈ W ∧ clash C s t = false
    · obtain ⟨s, t, hs, ht, hst⟩ := h1
      obtain ⟨w, hw, k1, k2⟩ := chordal n W hWl ndW hnoW s (sW hs) t ht hst
      rcases (mW.mp hw).2 with k | k
      · exact up k k1
      · rw [hSc s w hs k] at k2
        cases k2
    · by_cases h2 : ∃ b t, b ∈ W ∧ t ∈ W ∧ clash C b t = false
      · obtain ⟨b, t, hb, ht, hbt⟩ := h2
        obtain ⟨w, hw, k1, k2⟩ := chordal n W hWl ndW hnoW b hb t ht hbt
        rcases (mW.mp hw).2 with k | k
        · exact up k k1
        · exact absurd ⟨w, b, k, hb, by rw [clash_symm]; exact k2⟩ h1
      · refine up (w := u) .base fun x hx y hy _ _ => ?_
        cases hz : clash C x y with
        | true => rfl
        | false => exact absurd ⟨x, y, hx, hy, hz⟩ h2
theorem stuck_ring {U : T} (hne : U ≠ []) (hnd : U.Nodup) (h : ∀ c ∈ U, ¬ Simp C c U) : ∃ r, Rn C r ∧ ∀ z ∈ r, z ∈ U := Classical.byContradiction fun hno => by
  have hno2 : ∀ r, Rn C r → ¬ ∀ z ∈ r, z ∈ U := fun r h1 h2 => hno ⟨r, h1, h2⟩
  by_cases hp : ∃ v u, v ∈ U ∧ u ∈ U ∧ clash C v u = false
  · obtain ⟨v, u, hv, hu, hvu⟩ := hp
    obtain ⟨w, hw, k, _⟩ := chordal U.length U (Nat.le_refl _) hnd hno2 v hv u hu hvu
    exact h w hw k
  · obtain ⟨x, hx⟩ := List.exists_mem_of_ne_nil U hne
    refine h x hx fun a ha b hb _ _ => ?_
    cases hz : clash C a b with
    | true => rfl
    | false => exact absurd ⟨a, b, ha, hb, hz⟩ hp
theorem n_elim_iff (hL : Lets L) : elimOf L C = none ↔ lRings L C ≠ [] := by
  constructor
  · intro h
    obtain ⟨U, hne, hnd, hs, hno⟩ := elim_none (L.length + 1) L [] hL.nd (fun x hx => hx) (Nat.lt_succ_self _) h
    obtain ⟨r, h1, h2⟩ := stuck_ring hne hnd hno
    obtain ⟨k, hk⟩ := rn_ring hL.nd h1 fun x hx => hs x (h2 x hx)
    rcases rings_cases (C := C) hL.nd with ⟨_, e⟩ | ⟨i, h3, h4, _⟩
    · exact absurd (e k) hk
    · rw [h4]; exact h3
  · intro h
    cases ho : elimOf L C with
    | none => rfl
    | some o =>
      obtain ⟨hp, hg⟩ := elim_gr hL ho
      rcases rings_cases (C := C) hL.nd with ⟨e, _⟩ | ⟨i, h3, h4, _⟩
      · exact absurd e h
      · obtain ⟨r, hr⟩ := List.exists_mem_of_ne_nil _ h3
        obtain ⟨k1, k2⟩ := ring_rn hr
        have hne : r ≠ [] := by
          obtain ⟨p, c, rfl, _⟩ := k1
          simp
        obtain ⟨z, hz, k3⟩ := gr_first hg hne fun x hx => hp.mem_iff.mpr (k2 x hx)
        exact absurd k3 (rn_simp k1 hz)
end
end WW

/-! the law's mathematics -/
namespace WW
section
variable {L : T} {C : List T}
theorem m_is_eq (hL : Lets L) (hC : Conf L C) (z : T) : elimIs L C z = lElim L C z := n_is_eq hL z
theorem m_ring (hL : Lets L) (hC : Conf L C) : ringOf L C = if lRings L C = [] then none else some (minL (lRings L C)) := n_ring hL
theorem m_elim_iff (hL : Lets L) (hC : Conf L C) : elimOf L C = none ↔ lRings L C ≠ [] := n_elim_iff hL
theorem m_elim_law (hL : Lets L) (hC : Conf L C) {o : T} (h : elimOf L C = some o) : lElim L C o = true := n_elim_law hL h
theorem m_less (hL : Lets L) (hC : Conf L C) {o : T} (h : elimOf L C = some o) {i : Nat} (hi : i < o.length) : ∀ c ∈ o.drop i, c < atO o i → lFirst C c (o.drop i) = false := n_less hL h hi
theorem m_claw (hL : Lets L) (hC : Conf L C) : (clawsOf L C).head? = if lClaws L C = [] then none else some (minL (lClaws L C)) := n_claw hL
theorem m_fan (hL : Lets L) (hC : Conf L C) : (fansOf L C).head? = if lFans L C = [] then none else some (minL (lFans L C)) := n_fan hL
theorem m_peo (hL : Lets L) (hC : Conf L C) (h : Peo L C) : elimOf L C ≠ none := n_peo hL h
end
end WW

/-! the law's walk: right -/
namespace WW
open PySem PySem.Spec PyProof.Rows L2 Evl
/-- a property of the class at W -/
structure PropF (P : Program) (w : World) (K : PySem.W.Frag) (mg : Str → Option Value) (base : Heap) (W : Addr) (f : Str) (sp : Sp) : Prop where
  ex : ∃ (p g : Addr), PySem.W.findIn K (.ref W) f = some (some (.ref p)) ∧ PySem.W.specialIn K (.ref p) "__get__" = some (some (.builtin "property.__get__")) ∧ PySem.W.takesIn K (.ref p) = some true ∧
    (∃ rest, PySem.W.recIn K p "property" = some (.ref g :: rest)) ∧ FnR P w K mg base L2.CX0 1 g sp
theorem pe_prop {X : Cx} {W : Addr} {f : Str} {sp : Sp} {j : Nat} {e : Expr} {pos : Pos} {ta : TE} (c : PropF X.prog X.w X.K X.mg X.base W f sp) (hr : Room j X.A) (hj : 2 ≤ j) (he : PE X e ta) (wk : SlX.SCls X.K W) (hb : attributeBase e f X.env (eval e X.env) = eval e X.env := by rfl) :
    PE X (.Attribute e f pos) (SlX.tPropSl W sp E0 ta) := by
  obtain ⟨p, g, h1, h2, h3, h4, F⟩ := c.ex
  exact SlX.pe_propSl he wk h1 h2 h3 h4 F (hr.mono hj) (fun _ _ _ _ z => z) hb
section
variable {K : PySem.W.Frag} {σ : L2.St} {H H' : Hp} {ta tb te tx to : TE} {t u : TT} {x y z v : V}
theorem ev_prop {W : Addr} {sp : Sp} {a c : Addr} {L : T} {C : List T} (hw : WebAt K W H a c L C) (h : Ev ta σ H (.ref a)) (hs : SpV sp [.ref a] H v) : Ev (SlX.tPropSl W sp E0 ta) σ H v := fun H1 e Q q =>
  h H1 e _ fun H2 e2 => by
    obtain ⟨dx, d, h1, h2, h3⟩ := hw
    exact ⟨a, dx, _, rfl, slt_ex (e.trans e2) h1, hs H2 (e.trans e2) Q (fun H3 e3 => q H3 (e2.trans e3)) E0⟩
/-- min(xs) if xs != [] else None -/
theorem ev_minO {p : Addr} {ts : List T} {tn : TE} (h0 : EvL tn σ H []) (ha : Ev ta σ H (.ref p)) (hx : SqL K H p (ts.map vS)) : Ev (tIf (tTest (tOp (wNeNil K) ta tn)) (tCB (rMinS K) (tCons ta tNil)) (tC .non)) σ H (vO (if ts = [] then none else some (minL ts))) := by
  refine ev_if (et_test (ev_neNilA ha hx h0)) (fun h => ?_) (fun h => ?_)
  · rw [isE_map] at h
    have hne := bl_emp.mp h
    rw [if_neg hne]
    exact ev_minL ha hx hne
  · rw [isE_map] at h
    have hn : ts = [] := by simpa using h
    rw [if_pos hn]
    exact ev_c
theorem scal_O {a b : Option T} : scal (vO a) (vO b) = true := by cases a <;> cases b <;> rfl
end
/-- an if after which Mid holds, whichever way -/
theorem q_ifMid {σ : L2.St} {H : Hp} {D : Ends} {t : TT} {tu tz : TS} {b : Bool} (Mid : L2.St → Hp → Prop) (h : EvT t σ H b) (h1 : b = true → ∀ H1, Ex H H1 → ∀ N : L2.St → Hp → Prop, (∀ σ2 H2, Mid σ2 H2 → N σ2 H2) → tu { D with nx := N } σ H1) (h2 : b = false → ∀ H1, Ex H H1 → Mid σ H1)
    (k : ∀ σ2 H2, Mid σ2 H2 → tz D σ2 H2) : tSeq (tIfS t tu tNext) tz D σ H := q_when h (fun hb H1 e1 => h1 hb H1 e1 _ k) fun hb H1 e1 => k _ _ (h2 hb H1 e1)
/-- a value that is no text, and not told as one -/
def Odd (K : PySem.W.Frag) (H : Hp) (L : T) (C : List T) (v : V) : Prop := (∃ z : T, v = vS z ∧ z.length < 64 ∧ elimIs L C z = false) ∨ ∃ tt, (∀ H1, Ex H H1 → TyX K H1 v tt) ∧ PySem.W.kitOne K tt (.type "str") = some false
theorem Odd.ex {K : PySem.W.Frag} {H H' : Hp} {L : T} {C : List T} {v : V} (e : Ex H H') (h : Odd K H L C v) : Odd K H' L C v := by
  rcases h with h | ⟨tt, h1, h2⟩
  · exact .inl h
  · exact .inr ⟨tt, fun H1 e1 => h1 H1 (e.trans e1), h2⟩
section
variable {P : Program} {w : World} {K : PySem.W.Frag} {mg : Str → Option Value} {base : Heap} {W : Addr}
theorem map_v1' (o : T) : o.map v1 = (o.map fun c => [c]).map (V.str ∘ S) := by rw [List.map_map]; rfl
theorem elimIs_len {L z : T} {C : List T} (h : z.length ≠ L.length) : elimIs L C z = false := by
  unfold elimIs
  rw [decide_eq_false (fun e => h (by rw [← e, isort_len])), Bool.false_and]
theorem elimIs_mem {L z : T} {C : List T} {c : Nat} (h : c ∈ z) (h2 : c ∉ L) : elimIs L C z = false := by
  unfold elimIs
  rw [decide_eq_false (fun e => h2 (by rw [← e]; exact (isort_perm z).mem_iff.mpr h)), Bool.false_and]
theorem s_forTup {σ : L2.St} {H : Hp} {D : Ends} {te0 : TE} {g : TG} {tu : TS} (Cond : Addr → Hp → Prop) (h0 : ∀ Q : VK, (∀ tp H1, Cond tp H1 → Q (.ref tp) H1) → te0 σ H Q)
    (k : ∀ tp H1, Cond tp H1 → tFor (iTup K (tC (.ref tp))) g tu D σ H1) : tFor (iTup K te0) g tu D σ H := h0 _ fun tp H1 c => k tp H1 c
/-- arguments none of which is told an elimination -/
def EvOdd (K : PySem.W.Frag) (L : T) (C : List T) (ta : TA) (σ : L2.St) (H : Hp) (n : Nat) : Prop := ∀ H1, Ex H H1 → ∀ Q : List V → Hp → Prop, (∀ vs H2, Ex H1 H2 → vs.length = n → (∀ x ∈ vs, Odd K H2 L C x) → Q vs H2) → ta σ H1 Q
section
variable {L : T} {C : List T} {σ : L2.St} {H : Hp} {ta : TA} {te : TE} {n : Nat} {v : V}
theorem eo_nil : EvOdd K L C tNil σ H 0 := fun H1 _ Q q => q [] H1 (Ex.refl _) rfl fun x hx => nomatch hx
theorem eo_cons (h : ∀ H1, Ex H H1 → ∀ Q : VK, (∀ v H2, Ex H1 H2 → Odd K H2 L C v → Q v H2) → te σ H1 Q) (hr : EvOdd K L C ta σ H n) : EvOdd K L C (tCons te ta) σ H (n + 1) := fun H1 e Q q =>
  h H1 e _ fun v H2 e2 ho => hr H2 (e.trans e2) _ fun vs H3 e3 hl hall => q (v :: vs) H3 (e2.trans e3) (by rw [List.length_cons, hl]) fun x hx => by
    rcases List.mem_cons.1 hx with rfl | hx
    · exact ho.ex e3
    · exact hall x hx
theorem odd_v (h : Ev te σ H v) (ho : ∀ H1, Odd K H1 L C v) : ∀ H1, Ex H H1 → ∀ Q : VK, (∀ v H2, Ex H1 H2 → Odd K H2 L C v → Q v H2) → te σ H1 Q := fun H1 e Q q => h H1 e Q fun H2 e2 => q v H2 e2 (ho H2)
theorem odd_l {xs : List V} (h : EvL te σ H xs) : ∀ H1, Ex H H1 → ∀ Q : VK, (∀ v H2, Ex H1 H2 → Odd K H2 L C v → Q v H2) → te σ H1 Q := fun H1 e Q q =>
  h H1 e Q fun p H2 _ e2 hp => q _ H2 e2 (.inr ⟨.type "list", fun H3 e3 => .base (.lst (e3 p _ hp)), kit_ty (by decide +kernel)⟩)
theorem odd_u {xs : List V} (h : EvU te σ H xs) : ∀ H1, Ex H H1 → ∀ Q : VK, (∀ v H2, Ex H1 H2 → Odd K H2 L C v → Q v H2) → te σ H1 Q := fun H1 e Q q =>
  h H1 e Q fun p H2 _ e2 hp => q _ H2 e2 (.inr ⟨.type "tuple", fun H3 e3 => .base (.tup (e3 p _ hp)), kit_ty (by decide +kernel)⟩)
theorem tup_odd {R : VK} (h : EvOdd K L C ta σ H n) (hn : n ≤ 1000) (k : ∀ p H1 vs, H1 p = some (.tup vs) → Ex H H1 → (∀ x ∈ vs, Odd K H1 L C x) → R (.ref p) H1) : tTup ta σ H R :=
  h H (Ex.refl _) _ fun vs H1 e1 hl ho => ⟨by rw [hl]; exact slen hn, fun p hp => k p _ vs upd_same (e1.trans (Ex.new hp)) fun x hx => (ho x hx).ex (Ex.new hp)⟩
theorem odd_d : ∀ H1, Ex H H1 → ∀ Q : VK, (∀ v H2, Ex H1 H2 → Odd K H2 L C v → Q v H2) → tDNewK σ H1 Q := fun H1 e Q q p hp =>
  q _ _ (Ex.new hp) (.inr ⟨.type "dict", fun H3 e3 => .base (.dK (e3 p _ upd_same)), kit_ty (by decide +kernel)⟩)
end
theorem r_joinC {K : PySem.W.Frag} {p : Addr} {o : T} {H : Hp} {Q : VK} (h : SqL K H p (o.map v1)) (hl : o.length ≤ 1000) (q : Q (vS o) H) : wJoin K (vS []) [.ref p] H Q := by
  refine ⟨S [], p, (o.map fun c => [c]).map S, rfl, rfl, .inl (by rw [List.map_map, ← map_v1' o]; exact h), ?_, ?_⟩
  · have e1 : (((o.map fun c => [c]).map S).map (·.length)).sum = (o.map fun c => [c]).flatten.length := by rw [List.length_flatten, SX.lens]
    have e2 : (S []).length = 0 := S_len []
    rw [e1, e2, Nat.mul_zero, flat_ones]
    omega
  · rw [SX.join_S, joinL_nil, flat_ones]
    exact q
def spRight (K : PySem.W.Frag) (W : Addr) : Sp := fun vs H Q _ => ∃ (l a t : Addr) (L : T) (C : List T), vs = [.ref l, .ref a] ∧ Dice H l ∧ WebAt K W H a t L C ∧ Lets L ∧ Conf L C ∧ ∀ H', ExM l H H' → Dice H' l → Q (.bl true) H'
theorem web_del {H : Hp} {l a t : Addr} {L : T} {C : List T} (d : Dice H l) (h : WebAt K W H a t L C) : WebAt K W (delA H l) a t L C := by
  obtain ⟨x, y, z, hl⟩ := id d
  obtain ⟨dx, e, h1, h2, h3⟩ := h
  refine ⟨dx, e, ?_, st_del h2 d, by rw [delA_ne (fun q => by rw [q, hl] at h3; cases h3)]; exact h3⟩
  rcases h1 with ⟨h1, h4⟩ | ⟨h1, h4⟩
  · exact .inl ⟨by rw [delA_ne (fun q => by rw [q, hl] at h1; cases h1)]; exact h1, h4⟩
  · exact .inr ⟨by rw [delA_ne (fun q => by rw [q, hl] at h1; cases h1)]; exact h1, by rw [delA_ne (fun q => by rw [q, hl] at h4; cases h4)]; exact h4⟩
theorem cal_law_right (wk : WK K W) (g : Top K mg W) (F : DefX K mg "_law_right" s_law_right ["_law_dice_here", "_law_web"]) (c_letters : PropF P w K mg base W "letters" (spLetters K W)) (c_conflicts : PropF P w K mg base W "conflicts" (spConfl K W))
    (c_elimination : Cal P w K mg base 2 "elimination" (spElim K W)) (c_chordless_ring : Cal P w K mg base 3 "chordless_ring" (spRing K W)) (c_law_rings : Cal P w K mg base 3 "_law_rings" (spLRings K)) (c_law_eliminates : Cal P w K mg base 3 "_law_eliminates" (spLElim K))
    (c_is_elimination : Cal P w K mg base 2 "is_elimination" (spElimIs K W)) (c_law_first : Cal P w K mg base 3 "_law_first" (spFirst K)) (c_law_mixed : Cal P w K mg base 2 "_law_mixed" (spMixed K)) (c_law_roll : Cal P w K mg base 1 "_law_roll" (spRoll ()))
    (c_law_claws : Cal P w K mg base 3 "_law_claws" (fun vs H Q _ => ∃ (t : Addr) (L : T) (C : List T), vs = [vS L, .ref t] ∧ SqT K H t (C.map vS) ∧ L.length ≤ 9 ∧ RetL ((lClaws L C).map vS) H Q))
    (c_law_fans : Cal P w K mg base 3 "_law_fans" (fun vs H Q _ => ∃ (t : Addr) (L : T) (C : List T), vs = [vS L, .ref t] ∧ SqT K H t (C.map vS) ∧ L.length ≤ 9 ∧ L.Nodup ∧ RetL ((lFans L C).map vS) H Q))
    (c_claw : Cal P w K mg base 4 "claw" (spClaw K W)) (c_fan : Cal P w K mg base 4 "fan" (fun vs H Q _ => ∃ (a t : Addr) (L : T) (C : List T), vs = [.ref a] ∧ WebAt K W H a t L C ∧ L.length ≤ 9 ∧ L.Nodup ∧ RetV (vO (fansOf L C).head?) H Q)) :
    Cal P w K mg base 5 "_law_right" (spRight K W) :=
  cal_of (k := 4) F cs_law_right (fun vs H Q E h => by obtain ⟨l, a, t, L, C, rfl, _⟩ := h; rfl) fun f cdv A outer s H vs Q E hr h => by
    obtain ⟨l, a, t, L, C, rfl, hd, hw, hL, hC, q⟩ := h
    have h9 := hL.le
    have nd := hL.nd
    refine ⟨_, (pss_cons (ps_asg (pe_tup (pa_cons (pe_prop c_letters hr (by decide) (pv 1) wk.sc) (pa_cons (pe_prop c_conflicts hr (by decide) (pv 1) wk.sc) pa_nil))) (pg_tupK K (n := 2) rfl (pgs_cons (pg_name (i := 6) cs_law_right.nd rfl (.inl rfl)) (pgs_cons (pg_name (i := 7) cs_law_right.nd rfl (.inr rfl)) pgs_nil))))
    (pss_cons (ps_asg (pe_tup (pa_cons (pe_cal c_elimination hr (by decide) (by rfl) (pa_cons (pv 1) pa_nil)) (pa_cons (pe_cal c_chordless_ring hr (by decide) (by rfl) (pa_cons (pv 1) pa_nil)) pa_nil))) (pg_tupK K (n := 2) rfl (pgs_cons (pg_name (i := 8) cs_law_right.nd rfl (.inr rfl)) (pgs_cons (pg_name (i := 9) cs_law_right.nd rfl (.inl rfl)) pgs_nil))))
    (pss_cons (ps_set (i := 2) cs_law_right.nd rfl (.inl rfl) (pe_cal c_law_rings hr (by decide) (by rfl) (pa_cons (pv 6) (pa_cons (pv 7) pa_nil))))
    (pss_cons (ps_if ((pw_or (pt_cmpR op_ne (pe_cmpR op_isN1 (pv 8) pe_non (by rfl)) (pe_cmpR (op_neNilK K (by exact hr.units)) (pv 2) (pe_lst pa_nil) (by rfl)) (by rfl)) (pw_or1 (pt_cmpR op_ne (pv 9) (pe_ifExp (pt_cmpR (op_neNilK K (by exact hr.units)) (pv 2) (pe_lst pa_nil) (by rfl)) (pe_callB (cr_minS rfl) (by rfl) g.b_min bt_min (pa_cons (pv 2) pa_nil)) pe_non) (by rfl))))).pt (pss_one (ps_ret pe_bl)) pss_nil)
    (pss_cons (ps_if ((pw_and (pt_cmpR op_notN1 (pv 8) pe_non (by rfl)) (pw_and1 ((pw_or (pt_not (pt_val (pe_cal c_law_eliminates hr (by decide) (by rfl) (pa_cons (pv 6) (pa_cons (pv 7) (pa_cons (pv 8) pa_nil)))))) (pw_or1 (pt_not (pt_val (pe_cal c_is_elimination hr (by decide) (by rfl) (pa_cons (pv 1) (pa_cons (pv 8) pa_nil)))))))).pt))).pt (pss_one (ps_ret pe_bl)) pss_nil)
    (pss_cons (ps_for PassesOwn.never rfl (pi_range1 (by rfl) g.b_range (pa_cons (pe_ifExp (pt_cmpR op_notN1 (pv 8) pe_non (by rfl)) (pe_callB cr_wLenT (by rfl) g.b_len bt_len (pa_cons (pv 8) pa_nil)) pe_int) pa_nil)) (pg_name (i := 3) cs_law_right.nd rfl (.inr rfl))
    (pss_cons (ps_setLc (i := 10) (own := [("_law_one", 16)]) rfl cs_law_right.nd rfl rfl (sw_true rfl rfl rfl (by kernel_rfl)) (pi_str (pe_slice sl_str (pv 8) (po_some (pv 3)) po_none)) (blkOk_by (by kernel_rfl)) (fun _ _ _ _ _ => (pg_name (i := 16) cs_law_right.nd rfl (by first | exact Or.inl rfl | exact Or.inr rfl))) (fun _ _ _ _ _ => (pts_one (pt_cmpR op_wLt (pv 16) (pe_ix ix_str (pv 8) (pv 3) (fun _ _ => rfl)) (by rfl)))) (fun _ _ _ _ _ => (pv 16)))
    (pss_one (ps_if (pt_cmpR (op_neNilK K (by exact hr.units)) (pe_lc (own := [("_law_one", 16)]) rfl cs_law_right.nd (pi_listK K (pv 10)) (blkOk_by (by kernel_rfl)) (fun _ _ _ _ _ => (pg_name (i := 16) cs_law_right.nd rfl (by first | exact Or.inl rfl | exact Or.inr rfl))) (fun _ _ _ _ _ => (pts_one (pt_val (pe_cal c_law_first hr (by decide) (by rfl) (pa_cons (pv 7) (pa_cons (pv 16) (pa_cons (pe_slice sl_str (pv 8) (po_some (pv 3)) po_none) pa_nil))))))) (fun _ _ _ _ _ => (pv 16))) (pe_lst pa_nil) (by rfl)) (pss_one (ps_ret pe_bl)) pss_nil))))
    (pss_cons (ps_for PassesOwn.never rfl (pi_range1 (by rfl) g.b_range (pa_cons pe_int pa_nil)) (pg_name (i := 4) cs_law_right.nd rfl (.inl rfl))
    (pss_cons (ps_set (i := 11) cs_law_right.nd rfl (.inl rfl) (pe_m1 PySem.F.slot_str_join PySem.F.type_str_join (mt_joinK K) pe_str (pe_cal c_law_mixed hr (by decide) (by rfl) (pa_cons (pv 0) (pa_cons (pe_callTy (cr_listT rfl) (by rfl) g.b_list bt_list (pa_cons (pv 6) pa_nil)) pa_nil)))))
    (pss_cons (ps_if ((pw_and (pt_cmpR op_eq (pv 4) pe_int (by rfl)) (pw_and (pt_cmpR op_notN1 (pv 8) pe_non (by rfl)) (pw_and1 (pt_cmpR op_gt (pe_callB cr_wLenT (by rfl) g.b_len bt_len (pa_cons (pv 8) pa_nil)) pe_int (by rfl)))))).pt (pss_cons (ps_set (i := 15) cs_law_right.nd rfl (.inl rfl) (pe_cal c_law_roll hr (by decide) (by rfl) (pa_cons (pv 0) (pa_cons (pe_op op_sub (pe_callB cr_wLenT (by rfl) g.b_len bt_len (pa_cons (pv 8) pa_nil)) pe_int) pa_nil))))
    (pss_one (ps_set (i := 11) cs_law_right.nd rfl (.inl rfl) (pe_op op_wAdd (pe_op op_wAdd (pe_op op_wAdd (pe_slice sl_str (pv 8) po_none (po_some (pv 15))) (pe_ix ix_str (pv 8) (pe_op op_add (pv 15) pe_int) (fun _ _ => rfl))) (pe_ix ix_str (pv 8) (pv 15) (fun _ _ => rfl))) (pe_slice sl_str (pv 8) (po_some (pe_op op_add (pv 15) pe_int)) po_none))))) pss_nil)
    (pss_cons (ps_set (i := 12) cs_law_right.nd rfl (.inl rfl) (pe_cal c_is_elimination hr (by decide) (by rfl) (pa_cons (pv 1) (pa_cons (pv 11) pa_nil))))
    (pss_one (ps_if ((pw_or (pt_not (pt_val (pe_callB (cr_isiK K) (by rfl) g.b_isinstance bt_isinstance (pa_cons (pv 12) (pa_cons (pe_bltn (v := .ty "bool") (by rfl) g.b_bool bt_bool rfl) pa_nil))))) (pw_or1 (pt_cmpR op_ne (pv 12) (pe_cal c_law_eliminates hr (by decide) (by rfl) (pa_cons (pv 6) (pa_cons (pv 7) (pa_cons (pv 11) pa_nil)))) (by rfl))))).pt (pss_one (ps_ret pe_bl)) pss_nil))))))
    (pss_cons (ps_for PassesOwn.never rfl (pi_tupK K (pe_tup (pa_cons pe_non (pa_cons pe_int (pa_cons (pe_op op_wAdd (pv 6) pe_str) (pa_cons (pe_op op_wAdd (pe_slice sl_str (pv 6) (po_some pe_int) po_none) pe_str) (pa_cons (pe_callTy (cr_listT rfl) (by rfl) g.b_list bt_list (pa_cons (pv 6) pa_nil)) (pa_cons (pe_tup (pa_cons pe_str pa_nil)) (pa_cons pe_dnewK (pa_cons (pe_op op_wAdd (pe_op op_mul_str (pv 6) pe_int) pe_str) pa_nil)))))))))) (pg_name (i := 5) cs_law_right.nd rfl (.inl rfl))
    (pss_one (ps_if (pt_val (pe_cal c_is_elimination hr (by decide) (by rfl) (pa_cons (pv 1) (pa_cons (pv 5) pa_nil)))) (pss_one (ps_ret pe_bl)) pss_nil)))
    (pss_cons (ps_par (i := 13) (j := 14) rfl cs_law_right.nd rfl rfl (by decide) rfl rfl (pa_cons (pe_cal c_law_claws hr (by decide) (by rfl) (pa_cons (pv 6) (pa_cons (pv 7) pa_nil))) (pa_cons (pe_cal c_law_fans hr (by decide) (by rfl) (pa_cons (pv 6) (pa_cons (pv 7) pa_nil))) pa_nil)) (by rfl))
    (pss_one (ps_ret (pe_and (pe_cmpR op_eq (pe_cal c_claw hr (by decide) (by rfl) (pa_cons (pv 1) pa_nil)) (pe_ifExp (pt_cmpR (op_neNilK K (by exact hr.units)) (pv 13) (pe_lst pa_nil) (by rfl)) (pe_callB (cr_minS rfl) (by rfl) g.b_min bt_min (pa_cons (pv 13) pa_nil)) pe_non) (by rfl)) (pe_one (pe_cmpR op_eq (pe_cal c_fan hr (by decide) (by rfl) (pa_cons (pv 1) pa_nil)) (pe_ifExp (pt_cmpR (op_neNilK K (by exact hr.units)) (pv 14) (pe_lst pa_nil) (by rfl)) (pe_callB (cr_minS rfl) (by rfl) g.b_min bt_min (pa_cons (pv 14) pa_nil)) pe_non) (by rfl))))))))))))))), ?_⟩
    have hwt : ∀ {H1 : Hp}, Ex (delA H l) H1 → WebAt K W H1 a t L C := fun e => web_ex e (web_del hd hw)
    have htT : ∀ {H1 : Hp}, Ex (delA H l) H1 → SqT K H1 t (C.map vS) := fun e => by
      obtain ⟨_, _, _, h2, _⟩ := hwt e
      exact h2
    -- the web's parts, its elimination and ring
    refine q_asg2 (x := vS L) (y := .ref t) (ev_prop hw (ev_var rfl) fun H1 e Q q E => ⟨a, t, L, C, rfl, web_ex e hw, q⟩) (ev_prop hw (ev_var rfl) fun H1 e Q q E => ⟨a, t, L, C, rfl, web_ex e hw, q⟩) fun H1 e1 => ?_
    have w1 := web_ex e1 hw
    refine q_asg2 (x := vO (elimOf L C)) (y := vO (ringOf L C)) (ev_cal (ea_cons (ev_var rfl) ea_nil) fun H2 e Q q E => ⟨a, t, L, C, rfl, web_ex e w1, h9, q⟩) (ev_cal (ea_cons (ev_var rfl) ea_nil) fun H2 e Q q E => ⟨a, t, L, C, rfl, web_ex e w1, h9, nd, q⟩) fun H2 e2 => ?_
    have w2 := web_ex e2 w1
    have t2 : SqT K H2 t (C.map vS) := by obtain ⟨_, _, _, h2, _⟩ := w2; exact h2
    refine q_asgL (xs := (lRings L C).map vS) (el_cal (ea_cons (ev_var rfl) (ea_cons (ev_var rfl) ea_nil)) fun H3 e3 Q q E => ⟨t, L, C, rfl, ex_t e3 t2, h9, nd, q⟩) fun rr H3 hrr e3 h3 => ?_
    have e03 : Ex H H3 := e1.trans (e2.trans e3)
    have hring := m_ring hL hC
    have helim := m_elim_iff hL hC
    refine q_when (b := false) ?c1 (fun z => nomatch z) fun _ H4 e4 => ?_
    case c1 =>
      refine et_or (a := false) (b := false) ?_ fun _ => ?_
      · refine et_is (et_test (ev_op (x := .bl (decide (vO (elimOf L C) = .non))) (y := .bl (!(lRings L C).isEmpty)) (ev_op (ev_var rfl) ev_c fun H5 _ Q q => ⟨rfl, q H5 (Ex.refl _)⟩) (ev_is (ev_neNilA (ev_var rfl) (sq_of h3) el_nil) (by rw [isE_map])) (rv_ne rfl))) ?_
        cases he : elimOf L C with
        | none =>
          have := helim.mp he
          cases hr : lRings L C with
          | nil => exact absurd hr this
          | cons a r => rfl
        | some o =>
          cases hr : lRings L C with
          | nil => rfl
          | cons a r =>
            have := helim.mpr (by rw [hr]; exact fun z => nomatch z)
            rw [he] at this
            cases this
      · refine et_is (et_test (ev_op (ev_var rfl) (ev_minO el_nil (ev_var rfl) (sq_of h3)) (rv_ne scal_O))) ?_
        rw [hring, decide_eq_true rfl]
        rfl
    have e04 : Ex H H4 := e03.trans e4
    have w4 := web_ex e04 hw
    have t4 : SqT K H4 t (C.map vS) := by obtain ⟨_, _, _, h2, _⟩ := w4; exact h2
    have ordL : ∀ o, elimOf L C = some o → o.length ≤ 9 ∧ isort o = L ∧ lElim L C o = true := fun o ho => by
      have h := m_elim_law hL hC ho
      have h2 : isort o = L := by
        unfold lElim at h
        rw [Bool.and_eq_true] at h; rw [decide_eq_true_eq] at h
        exact h.1
      exact ⟨by rw [← isort_len, h2]; exact h9, h2, h⟩
    have hsome : ∀ {σ : L2.St} {H1 : Hp} {te : TE}, Ev te σ H1 (vO (elimOf L C)) → EvT (tTest (tOp rNotN te (tC .non))) σ H1 (elimOf L C).isSome := fun h => by
      refine et_is (et_test (ev_op h ev_c fun H5 _ Q q => ⟨rfl, q H5 (Ex.refl _)⟩)) ?_
      cases elimOf L C <;> rfl
    refine q_when (b := false) ?c2 (fun z => nomatch z) fun _ H5 e5 => ?_
    case c2 =>
      refine et_is (et_and (a := (elimOf L C).isSome) (b := false) (hsome (ev_var rfl)) fun hs => ?_) (Bool.and_false _)
      obtain ⟨o, ho⟩ := Option.isSome_iff_exists.mp hs
      obtain ⟨l9, _, hle⟩ := ordL o ho
      refine et_or (a := false) (b := false) (et_is (et_not (et_B (b := true) (ev_cal (ea_cons (ev_var rfl) (ea_cons (ev_var rfl) (ea_cons (ev_var rfl) ea_nil))) fun H5 e5 Q q E => ⟨t, L, C, o, by rw [ho]; rfl, ex_t e5 t4, by omega, by rw [hle]; exact q⟩))) rfl) fun _ => ?_
      exact et_is (et_not (et_B (b := true) (ev_cal (ea_cons (ev_var rfl) (ea_cons (ev_var rfl) ea_nil)) fun H5 e5 Q q E => ⟨a, t, L, C, vO (elimOf L C), rfl, web_ex e5 w4, h9, .inl ⟨o, by rw [ho]; rfl, by omega, by rw [m_is_eq hL hC, hle]; exact q⟩⟩))) rfl
    have e05 : Ex H H5 := e04.trans e5
    have hn : ((((elimOf L C).map (·.length)).getD 0 : Nat) : Int) ≤ 9 := by
      cases ho : elimOf L C with
      | none => decide
      | some o =>
        have := (ordL o ho).1
        show ((o.length : Nat) : Int) ≤ 9
        omega
    refine q_forR1 (n := ((((elimOf L C).map (·.length)).getD 0 : Nat) : Int)) ?rg ⟨by omega, by omega⟩ (fun i σ H' => (∃ y3 y4 y5 y10 y11 y12 y13 y14 y15 y16, σ = [some (.ref l), some (.ref a), some (.ref rr), y3, y4, y5, some (vS L), some (.ref t), some (vO (elimOf L C)), some (vO (ringOf L C)), y10, y11, y12, y13, y14, y15, y16]) ∧ Ex H H')
      (fun H6 e6 => ⟨⟨_, _, _, _, _, _, _, _, _, _, rfl⟩, e05.trans e6⟩) (fun i σ' H6 hi hP => ?bd) (fun σ' H6 hP => ?_)
    case rg =>
      refine ea_cons (ev_if (hsome (ev_var rfl)) (fun hs => ?_) (fun hs => ?_)) ea_nil
      · obtain ⟨o, ho⟩ := Option.isSome_iff_exists.mp hs
        rw [ho]
        exact ev_lenT (z := o) (ev_var rfl) (by have := (ordL o ho).1; omega)
      · cases ho : elimOf L C with
        | none => exact ev_c
        | some o => rw [ho] at hs; cases hs
    case bd =>
      obtain ⟨⟨y3, y4, y5, y10, y11, y12, y13, y14, y15, y16, rfl⟩, e6⟩ := hP
      obtain ⟨o, ho⟩ : ∃ o, elimOf L C = some o := by
        cases ho : elimOf L C with
        | none => rw [ho] at hi; exact absurd hi (by show ¬ ((i : Int) < 0); omega)
        | some o => exact ⟨o, rfl⟩
      obtain ⟨l9, _, _⟩ := ordL o ho
      have hio : i < o.length := by
        rw [ho] at hi
        have hi : (i : Int) < ((o.length : Nat) : Int) := hi
        omega
      have hless := m_less hL hC ho hio
      rw [ho]
      have t6 : SqT K H6 t (C.map vS) := by obtain ⟨_, _, _, h2, _⟩ := web_ex e6 hw; exact h2
      have hdl : (o.drop i).length ≤ 9 := by rw [List.length_drop]; omega
      refine q_asgL (xs := ((o.drop i).filter fun c => decide (c < atO o i)).map v1) ?_ fun p1 H7 hp1 e7 h7 => ?_
      · refine el_lcC (as := o.drop i) (fun c => decide (c < atO o i)) (ew_name (ei_str (ev_sl (z := o) (ev_var rfl) (eo_some (ev_var rfl)) eo_none (by omega) (cut_from o i)))) (slen (by omega)) (fun _ _ => rfl) (fun c _ H7 e7 => ?_) fun c _ _ H7 _ => ev_var rfl
        exact et_is (et_test (ev_op (ev_var rfl) (ev_op (z := v1 (atO o i)) (ev_var rfl) (ev_var rfl) (rv_ix (z := o) (by omega) (atI_nat (by rw [List.getElem?_eq_getElem hio, atO_eq hio])))) (rv_lt (a := [c]) (b := [atO o i])))) one_lt1
      · refine s_when (b := false) (et_is (et_test (ev_neNil (el_lcC (as := (o.drop i).filter fun c => decide (c < atO o i)) (fun c => lFirst C c (o.drop i)) (ew_name (ei_listA (ev_var rfl) (sq_of h7))) (slen (Nat.le_trans (List.length_filter_le _ _) (by omega))) (fun _ _ => rfl) (fun c hc H8 e8 => ?_) fun c _ _ H8 _ => ev_var rfl) el_nil)) ?_) (fun z => nomatch z) fun _ H8 e8 => ⟨⟨_, _, _, _, _, _, _, _, _, _, rfl⟩, e6.trans (e7.trans e8)⟩
        · exact et_B (ev_cal (ea_cons (ev_var rfl) (ea_cons (ev_var rfl) (ea_cons (ev_sl (z := o) (ev_var rfl) (eo_some (ev_var rfl)) eo_none (by omega) (cut_from o i)) ea_nil))) fun H9 e9 Q q E => ⟨t, C, c, o.drop i, rfl, ex_t (e7.trans (e8.trans e9)) t6, by omega, q⟩)
        · rw [isE_map]
          have : ((o.drop i).filter fun c => decide (c < atO o i)).filter (fun c => lFirst C c (o.drop i)) = [] := List.filter_eq_nil_iff.mpr fun c hc => by
            obtain ⟨h1, h2⟩ := List.mem_filter.mp hc
            rw [hless c h1 (of_decide_eq_true h2)]
            exact Bool.noConfusion
          rw [this]
          rfl
    obtain ⟨⟨y3, y4, y5, y10, y11, y12, y13, y14, y15, y16, rfl⟩, e06⟩ := hP
    -- drawn orders
    refine q_forR1 (n := 4) (ea_cons ev_c ea_nil) (by decide) (fun i σ H' => (∃ y3 y4 y5 y10 y11 y12 y13 y14 y15 y16, σ = [some (.ref l), some (.ref a), some (.ref rr), y3, y4, y5, some (vS L), some (.ref t), some (vO (elimOf L C)), some (vO (ringOf L C)), y10, y11, y12, y13, y14, y15, y16]) ∧ ExM l H H' ∧ Dice H' l)
      (fun H7 e7 => ⟨⟨_, _, _, _, _, _, _, _, _, _, rfl⟩, ExM.of (e06.trans e7), hd.ex (e06.trans e7)⟩) (fun i σ' H7 hi hP => ?bd2) (fun σ' H7 hP => ?_)
    case bd2 =>
      obtain ⟨⟨y3, y4, y5, y10, y11, y12, y13, y14, y15, y16, rfl⟩, x7, d7⟩ := hP
      refine q_asgR (fun v H8 => ∃ z : T, v = vS z ∧ z.length ≤ 9 ∧ ExM l H7 H8 ∧ Dice H8 l) (fun Q hQ => ?_) fun v H8 hv => ?_
      · refine ⟨⟨_, rfl⟩, .ref l, rfl, vS L, rfl, S L, rfl, by rw [S_len]; exact slen (by omega), fun a1 ha1 => ?_⟩
        have al : a1 ≠ l := dice_ne (H' := H7) d7 ha1
        refine ⟨l, a1, L.map v1, rfl, dice_upd d7 ha1, al, sq_of upd_same, by rw [List.length_map]; omega, fun ys p1 H8 hp hp1 e8 d8 h8 => ?_⟩
        obtain ⟨o, ho, rfl⟩ := perm_v1 hp
        have ol := ho.length_eq
        exact r_joinC (sq_of h8) (by omega) (hQ _ H8 ⟨o, rfl, by omega, (exM_upd (ExM.refl l H7) ha1).trans e8, d8⟩)
      obtain ⟨z, rfl, hz, x8, d8⟩ := hv
      refine q_ifMid (b := decide (i = 3) && ((elimOf L C).isSome && decide (1 < (((elimOf L C).map (·.length)).getD 0)))) (fun σ H' => ∃ (z : T) (y3 y4 y5 y10 y12 y13 y14 y15 y16 : Option V), σ = [some (.ref l), some (.ref a), some (.ref rr), y3, y4, y5, some (vS L), some (.ref t), some (vO (elimOf L C)), some (vO (ringOf L C)), y10, some (vS z), y12, y13, y14, y15, y16] ∧ z.length ≤ 9 ∧ ExM l H H' ∧ Dice H' l)
        ?tt (fun hb H9 e9 N kN => ?p1) (fun hb H9 e9 => ⟨z, _, _, _, _, _, _, _, _, _, rfl, hz, x7.trans (x8.trans (ExM.of e9)), d8.ex e9⟩) fun σ2 H9 hM => ?_
      case tt =>
        refine et_and (et_is (et_test (ev_op (ev_var rfl) ev_c (rv_eq rfl))) ?_) fun _ => et_and (hsome (ev_var rfl)) fun hs => ?_
        · by_cases h : i = 3
          · rw [decide_eq_true h, h]; rfl
          · rw [decide_eq_false h, decide_eq_false]
            intro z
            have := V.int.inj z
            omega
        · obtain ⟨o, ho⟩ := Option.isSome_iff_exists.mp hs
          have l9 := (ordL o ho).1
          rw [ho]
          refine et_is (et_test (ev_op (ev_lenT (z := o) (ev_var rfl) (by omega)) ev_c rv_I0)) ?_
          show decide ((1 : Int) < (o.length : Int)) = decide (1 < o.length)
          by_cases h : 1 < o.length
          · rw [decide_eq_true h, decide_eq_true]; omega
          · rw [decide_eq_false h, decide_eq_false]; omega
      case p1 =>
        rw [Bool.and_eq_true, Bool.and_eq_true] at hb
        obtain ⟨o, ho⟩ := Option.isSome_iff_exists.mp hb.2.1
        have l9 := (ordL o ho).1
        have h2 := hb.2.2
        rw [ho] at h2
        have h2 : 1 < o.length := of_decide_eq_true h2
        have d9 := d8.ex e9
        refine q_asgR (fun v H10 => ∃ r : Nat, r + 1 < o.length ∧ v = .int (r : Int) ∧ ExM l H9 H10 ∧ Dice H10 l) (fun Q hQ => ?_) fun v H10 hv => ?_
        · refine ⟨.ref l, rfl, vS o, by rw [ho]; rfl, S o, rfl, by rw [S_len]; exact slen (by omega), ?_⟩
          have e : ((S o).length : Int) = (o.length : Int) := by rw [S_len]
          refine ⟨((S o).length : Int), 1, rfl, rfl, l, ((S o).length : Int) - 1, rfl, by omega, by omega, d9, fun r H10 hr10 e10 d10 => hQ _ H10 ⟨r, by omega, rfl, e10, d10⟩⟩
        · obtain ⟨r, hr, rfl, e10, d10⟩ := hv
          rw [ho] at kN ⊢
          have hr1 : r + 1 < o.length := hr
          refine s_asg (v := vS (o.take r ++ [atO o (r + 1)] ++ [atO o r] ++ o.drop (r + 2))) ?_ fun H11 e11 => kN _ _ ⟨_, _, _, _, _, _, _, _, _, _, rfl, ?_, x7.trans (x8.trans ((ExM.of e9).trans (e10.trans (ExM.of e11)))), d10.ex e11⟩
          · have hx : ∀ j, j < o.length → atI o (j : Int) = some (atO o j) := fun j hj => atI_nat (by rw [List.getElem?_eq_getElem hj, atO_eq hj])
            refine ev_op (ev_op (ev_op (ev_sl (z := o) (ev_var rfl) eo_none (eo_some (ev_var rfl)) (by omega) (cut_to o r)) (ev_op (z := v1 (atO o (r + 1))) (ev_var rfl) (ev_is (ev_op (ev_var rfl) ev_c rv_I0) (by show V.int _ = V.int ((r + 1 : Nat) : Int); rfl)) (rv_ix (z := o) (by omega) (hx _ hr1))) (rv_add (a := o.take r) (b := [atO o (r + 1)]) (by simp; omega))) (ev_op (z := v1 (atO o r)) (ev_var rfl) (ev_var rfl) (rv_ix (z := o) (by omega) (hx _ (by omega)))) (rv_add (a := o.take r ++ [atO o (r + 1)]) (b := [atO o r]) (by simp; omega)))
              (ev_sl (z := o) (ev_var rfl) (eo_some (ev_is (ev_op (ev_var rfl) ev_c rv_I0) (by show V.int _ = V.int ((r + 2 : Nat) : Int); rfl))) eo_none (by omega) (cut_from o (r + 2))) (rv_add (by simp; omega))
          · simp
            omega
      obtain ⟨z, y3, y4, y5, y10, y12, y13, y14, y15, y16, rfl, hz, x9, d9⟩ := hM
      have w9 := hwt (delA_exM x9)
      have t9 := htT (delA_exM x9)
      refine q_asg (v := .bl (elimIs L C z)) (ev_cal (ea_cons (ev_var rfl) (ea_cons (ev_var rfl) ea_nil)) fun H10 e10 Q q E => ⟨a, t, L, C, vS z, rfl, web_ex e10 w9, h9, .inl ⟨z, rfl, by omega, q⟩⟩) fun H10 e10 => ?_
      refine s_when (b := false) ?_ (fun z => nomatch z) fun _ H11 e11 => ⟨⟨_, _, _, _, _, _, _, _, _, _, rfl⟩, x9.trans (ExM.of (e10.trans e11)), d9.ex (e10.trans e11)⟩
      refine et_or (a := false) (b := false) (et_is (et_not (et_B (b := true) (ev_cb (ea_cons (ev_var rfl) (ea_cons ev_c ea_nil)) fun H11 e11 Q q => ⟨_, _, _, _, true, rfl, .ty "bool", .base (.bl _), kit_ty (by decide +kernel), q H11 (Ex.refl _)⟩))) rfl) fun _ => ?_
      refine et_is (et_test (ev_op (ev_var rfl) (ev_cal (ea_cons (ev_var rfl) (ea_cons (ev_var rfl) (ea_cons (ev_var rfl) ea_nil))) fun H11 e11 Q q E => ⟨t, L, C, z, rfl, ex_t (e10.trans e11) t9, by omega, q⟩) (rv_ne rfl))) ?_
      rw [m_is_eq hL hC, decide_eq_true rfl]
      rfl
    obtain ⟨⟨y3, y4, y5, y10, y11, y12, y13, y14, y15, y16, rfl⟩, x7, d7⟩ := hP
    have w7 := hwt (delA_exM x7)
    have t7 := htT (delA_exM x7)
    have noA : (65 : Nat) ∉ L := fun h => by have := hL.az 65 h; omega
    show tSeq (tFor (iTup K _) _ _) _ _ _ H7
    refine s_forTup (D := { ({ nx := fun _ H' => Q .non H', rt := Q } : Ends) with nx := _ }) (fun tp H1 => ∃ xs : List V, H1 tp = some (.tup xs) ∧ Ex H7 H1 ∧ ∀ x ∈ xs, Odd K H1 L C x) (fun R hR => ?vals) fun tp H8 hc => ?_
    case vals =>
      refine tup_odd (n := 8) ?_ (by decide) fun p H8 vs h8 e8 ho => hR p H8 ⟨vs, h8, e8, ho⟩
      exact eo_cons (odd_v (v := .non) ev_c fun _ => .inr ⟨.type "NoneType", fun H3 _ => .base .non, kit_ty (by decide +kernel)⟩) (eo_cons (odd_v (v := .int 3) ev_c fun _ => .inr ⟨.type "int", fun H3 _ => .base (.int 3), kit_ty (by decide +kernel)⟩)
        (eo_cons (odd_v (ev_op (x := vS L) (y := vS [97]) (ev_var (i := 6) rfl) ev_c (rv_add (by simp <;> omega))) fun _ => .inl ⟨L ++ [97], rfl, by simp <;> omega, elimIs_len (by simp)⟩)
        (eo_cons (odd_v (ev_op (x := vS (L.drop 1)) (y := vS [65]) (ev_sl (z := L) (ev_var (i := 6) rfl) (eo_some (te := tC (.int 1)) ev_c) eo_none (by omega) (cut_from L 1)) ev_c (rv_add (by simp <;> omega))) fun _ => .inl ⟨L.drop 1 ++ [65], rfl, by simp <;> omega, elimIs_mem (c := 65) (by simp) noA⟩)
        (eo_cons (odd_l (el_listT (ev_var (i := 6) rfl) (by omega)))
        (eo_cons (odd_u (eu_tup (vs := [vS [97]]) (ea_cons (ta := tC (vS [97])) ev_c ea_nil) (by show 1 ≤ 100000; decide)))
        (eo_cons odd_d
        (eo_cons (odd_v (v := vS ((L ++ L) ++ [98])) (ev_op (x := vS (L ++ L)) (y := vS [98]) (ev_op (x := vS L) (y := .int 2) (ev_var (i := 6) rfl) ev_c fun H1 _ Q q => ⟨S L, rfl, rfl, by rw [S_len]; omega, by rw [SX.S_cat]; exact q H1 (Ex.refl _)⟩) ev_c (rv_add (by simp <;> omega))) fun _ => .inl ⟨(L ++ L) ++ [98], rfl, by simp <;> omega, elimIs_len (by simp <;> omega)⟩) eo_nil)))))))
    obtain ⟨xs, hxs, e8, ho⟩ := hc
    have x8 : ExM l H H8 := x7.trans (ExM.of e8)
    have w8 := web_ex e8 w7
    have t8 := ex_t e8 t7
    refine s_for0 (as := xs) (st := fun v σ' => σ'.set 5 (some v)) ?ew (fun i σ => ∃ y3 y4 y5 y10 y11 y12 y13 y14 y15 y16, σ = [some (.ref l), some (.ref a), some (.ref rr), y3, y4, y5, some (vS L), some (.ref t), some (vO (elimOf L C)), some (vO (ringOf L C)), y10, y11, y12, y13, y14, y15, y16]) ⟨_, _, _, _, _, _, _, _, _, _, rfl⟩ (fun i v σ' H9 hi hσ e9 N k => ?bd3) (fun σ' H9 hσ e9 => ?_)
    case ew =>
      refine ew_name (inj := fun v => v) ?_
      rw [List.map_id']
      exact ei_tupA ev_c (st_of hxs)
    case bd3 =>
      obtain ⟨y3, y4, y5, y10, y11, y12, y13, y14, y15, y16, rfl⟩ := hσ
      have hv := (ho v (List.mem_of_getElem? hi)).ex e9
      have w9 := web_ex e9 w8
      refine s_when (b := false) (et_B (ev_cal (ea_cons (ev_var rfl) (ea_cons (ev_var rfl) ea_nil)) fun H10 e10 Q q E => ⟨a, t, L, C, v, rfl, web_ex e10 w9, h9, ?_⟩)) (fun z => nomatch z) fun _ H10 e10 => k _ _ ⟨_, _, _, _, _, _, _, _, _, _, rfl⟩ e10
      rcases hv.ex e10 with ⟨z, rfl, hz, hel⟩ | h
      · exact .inl ⟨z, rfl, hz, by rw [hel]; exact q⟩
      · obtain ⟨tt, h1, h2⟩ := h
        exact .inr ⟨tt, h1, h2, q⟩
    · obtain ⟨y3, y4, y5, y10, y11, y12, y13, y14, y15, y16, rfl⟩ := hσ
      have t9 := ex_t e9 t8
      have w9 := web_ex e9 w8
      dsimp only
      refine q_parLL (xs := (lClaws L C).map vS) (ys := (lFans L C).map vS) (el_cal (ea_cons (ev_var rfl) (ea_cons (ev_var rfl) ea_nil)) fun H10 e10 Q q E => ⟨t, L, C, rfl, ex_t e10 t9, h9, q⟩) (el_cal (ea_cons (ev_var rfl) (ea_cons (ev_var rfl) ea_nil)) fun H10 e10 Q q E => ⟨t, L, C, rfl, ex_t e10 t9, h9, nd, q⟩) fun p1 p2 H10 hp1 hp2 np e10 g1 g2 => ?_
      have w10 := web_ex e10 w9
      refine s_ret (v := .bl true) ?_ fun H11 e11 => q H11 (x8.trans (ExM.of (e9.trans (e10.trans e11)))) (d7.ex (e8.trans (e9.trans (e10.trans e11))))
      refine ev_is (ev_andV (a := true) (b := true) (ev_is (ev_op (ev_cal (ea_cons (ev_var rfl) ea_nil) fun H11 e11 Q q E => ⟨a, t, L, C, rfl, web_ex e11 w10, h9, nd, q⟩) (ev_minO el_nil (ev_var rfl) (sq_of g1)) (rv_eq scal_O)) (by rw [m_claw hL hC, decide_eq_true rfl])) fun _ =>
        ev_is (ev_op (ev_cal (ea_cons (ev_var rfl) ea_nil) fun H11 e11 Q q E => ⟨a, t, L, C, rfl, web_ex e11 w10, h9, nd, q⟩) (ev_minO el_nil (ev_var rfl) (sq_of g2)) (rv_eq scal_O)) (by rw [m_fan hL hC, decide_eq_true rfl])) rfl
end
end WW

/-! the law's walk: case, law -/
namespace WW
open PySem PySem.Spec PyProof.Rows L2 Evl
theorem pe_mk0 {X : Cx} {k j : Nat} {C : Addr} {x : Str} {sp : Sp} {dvs : List V} {p pos : Pos} (c : C8.Mak X.prog X.w X.K X.mg X.base k x C sp dvs) (hr : Room j X.A) (hk : k + 1 ≤ j) (hg : Gl X x) (hdb : (x == ("__debug__" : Str)) = false := by decide) :
    PE X (.Call (.Name x p) [] [] pos) (tMake C sp dvs E0 tNil) :=
  have ⟨_, _, _, _, M, F, hm, b, d⟩ := c.ex
  pe_make0 M F (hr.mono hk) hg hm b d pass0 hdb
theorem tcall1 {sp : Sp} {dvs : List V} {E : XK} {te : TE} {tr : TA} {σ : L2.St} {H : Hp} {Q : VK} (h : te σ H fun x H1 => tr σ H1 fun xs H2 => sp ((x :: xs) ++ dvs) H2 Q E) : tCall sp dvs E (tCons te tr) σ H Q := h
section
variable {P : Program} {w : World} {K : PySem.W.Frag} {mg : Str → Option Value} {base : Heap} {W : Addr}
/-- if not e: .., e true -/
theorem q_notR {σ : L2.St} {H : Hp} {D : Ends} {te : TE} {tu tz : TS} (Cond : Hp → Prop) (h0 : ∀ Q : VK, (∀ H1, Cond H1 → Q (.bl true) H1) → te σ H Q) (k : ∀ H1, Cond H1 → tz D σ H1) : tSeq (tIfS (tNot (tB te)) tu tNext) tz D σ H :=
  h0 _ fun H1 c => ⟨true, rfl, by
    show if (!true) = true then _ else _
    rw [if_neg (by decide)]
    exact k H1 c⟩
theorem s_notR {σ : L2.St} {H : Hp} {D : Ends} {te : TE} {tu : TS} (Cond : Hp → Prop) (h0 : ∀ Q : VK, (∀ H1, Cond H1 → Q (.bl true) H1) → te σ H Q) (k : ∀ H1, Cond H1 → D.nx σ H1) : tIfS (tNot (tB te)) tu tNext D σ H :=
  h0 _ fun H1 c => ⟨true, rfl, by
    show if (!true) = true then _ else _
    rw [if_neg (by decide)]
    exact k H1 c⟩
/-- a web is made -/
theorem made {H : Hp} {x dx t : Addr} {L : T} {C : List T} {Q : VK} {E : XK} (hx : H x = none) (hd : H dx = none) (hne : dx ≠ x) (ht : SqT K H t (C.map vS)) (gd : Good L C) (q : ∀ H', Ex H H' → WebAt K W H' x t L C → Q (.ref x) H') :
    spInit K W (.ref x :: [vS L, .ref t]) (upd (upd H dx (.own x)) x (.ins W dx [])) (fun v H2 => v = .non ∧ Q (.ref x) H2) E := by
  have e0 : Ex H (upd (upd H dx (.own x)) x (.ins W dx [])) := Ex.mut (Ex.new hd) hx
  refine ⟨x, dx, t, L, C, rfl, hne, upd_same, by rw [upd_ne hne, upd_same], ex_t e0 ht, gd, fun H' e hw => ⟨rfl, q H' (fun b o hb => ?_) hw⟩⟩
  exact e b o (ne_of_none hb hx) (ne_of_none hb hd) (e0 b o hb)
def spCase (u : Unit) : Sp := fun vs H Q _ => ∃ l : Addr, vs = [.ref l] ∧ Dice H l ∧ ∀ H', ExM l H H' → Dice H' l → Q (.bl true) H'
theorem cal_law_case (wk : WK K W) (g : Top K mg W) (F : DefX K mg "_law_case" s_law_case ["_law_dice_here"]) (c_law_any_letters : Cal P w K mg base 3 "_law_any_letters" (spAnyL K)) (c_law_drawn : Cal P w K mg base 4 "_law_drawn" (spDrawn K)) (c_Web : C8.Mak P w K mg base 3 "Web" W (spInit K W) [])
    (c_law_right : Cal P w K mg base 5 "_law_right" (spRight K W)) (c_elimination : Cal P w K mg base 2 "elimination" (spElim K W)) : Cal P w K mg base 6 "_law_case" (spCase ()) :=
  cal_of (k := 5) F cs_law_case (fun vs H Q E h => by obtain ⟨l, rfl, _⟩ := h; rfl) fun f cdv A outer s H vs Q E hr h => by
    obtain ⟨l, rfl, hd, q⟩ := h
    refine ⟨_, (pss_cons (ps_for PassesOwn.never rfl (pi_range1 (by rfl) g.b_range (pa_cons pe_int pa_nil)) (pg_name (i := 1) cs_law_case.nd rfl (.inl rfl))
    (pss_cons (ps_set (i := 2) cs_law_case.nd rfl (.inl rfl) (pe_cal c_law_any_letters hr (by decide) (by rfl) (pa_cons (pv 0) (pa_cons pe_int (pa_cons pe_int pa_nil)))))
    (pss_cons (ps_set (i := 3) cs_law_case.nd rfl (.inl rfl) (C8.pe_mk c_Web hr (by decide) (by rfl) (pa_cons (pv 2) (pa_cons (pe_cal c_law_drawn hr (by decide) (by rfl) (pa_cons (pv 0) (pa_cons (pv 2) (pa_cons (pv 1) pa_nil)))) pa_nil))))
    (pss_cons (ps_if (pt_not (pt_val (pe_cal c_law_right hr (by decide) (by rfl) (pa_cons (pv 0) (pa_cons (pv 3) pa_nil))))) (pss_one (ps_ret pe_bl)) pss_nil)
    (pss_one (ps_if ((pw_and (pt_cmpR op_eq (pv 1) pe_int (by rfl)) (pw_and (pt_cmpR op_gt (pe_callB cr_wLenT (by rfl) g.b_len bt_len (pa_cons (pv 2) pa_nil)) pe_int (by rfl)) (pw_and1 (pt_cmpR op_isN1 (pe_cal c_elimination hr (by decide) (by rfl) (pa_cons (pv 3) pa_nil)) pe_non (by rfl)))))).pt (pss_one (ps_ret pe_bl)) pss_nil))))))
    (pss_one (ps_ret pe_bl))), ?_⟩
    refine q_forR1 (n := 4) (ea_cons ev_c ea_nil) (by decide) (fun i σ H' => (∃ y1 y2 y3, σ = [some (.ref l), y1, y2, y3]) ∧ ExM l H H' ∧ Dice H' l) (fun H7 e7 => ⟨⟨_, _, _, rfl⟩, ExM.of e7, hd.ex e7⟩) (fun i σ' H7 hi hP => ?bd) (fun σ' H7 hP => ?_)
    case bd =>
      obtain ⟨⟨y1, y2, y3, rfl⟩, x7, d7⟩ := hP
      refine q_asgR (fun v H8 => ∃ L : T, v = vS L ∧ Lets L ∧ ExM l H7 H8 ∧ Dice H8 l) (fun Q hQ => ?_) fun v H8 hv => ?_
      · exact ⟨.ref l, rfl, l, rfl, d7, fun L H8 hL e8 d8 => hQ _ H8 ⟨L, rfl, hL, e8, d8⟩⟩
      obtain ⟨L, rfl, hL, x8, d8⟩ := hv
      refine q_asgR (fun v H9 => ∃ (a t : Addr) (C : List T), v = .ref a ∧ WebAt K W H9 a t L C ∧ Conf L C ∧ (i = 1 → 3 ≤ L.length → Peo L C) ∧ ExM l H8 H9 ∧ Dice H9 l) (fun Q hQ => ?_) fun v H9 hv => ?_
      · refine ⟨vS L, rfl, .ref l, rfl, vS L, rfl, .int (i : Int), rfl, l, L, i, rfl, d8, hL, fun C t H9 hC hp ht e9 d9 h9 => ?_⟩
        refine fun x dx hx hdx hne => made hx hdx hne (st_of h9) (good_of hL hC) fun H10 e10 hw => hQ _ H10 ⟨x, t, C, rfl, hw, hC, hp, e9.trans (ExM.of e10), d9.ex e10⟩
      obtain ⟨a, t, C, rfl, hw, hC, hp, x9, d9⟩ := hv
      have x79 := x7.trans (x8.trans x9)
      refine q_notR (fun H10 => ExM l H9 H10 ∧ Dice H10 l) (fun Q k => ⟨.ref l, rfl, .ref a, rfl, l, a, t, L, C, rfl, d9, hw, hL, hC, fun H10 x10 d10 => k H10 ⟨x10, d10⟩⟩) fun H10 hc => ?_
      obtain ⟨x10, d10⟩ := hc
      have w10 := web_ex (delA_exM x10) (web_del d9 hw)
      have xx := x79.trans x10
      refine s_when (b := false) ?_ (fun z => nomatch z) fun _ H11 e11 => ⟨⟨_, _, _, rfl⟩, xx.trans (ExM.of e11), d10.ex e11⟩
      have di : decide (V.int (i : Int) = V.int 1) = decide (i = 1) := by
        by_cases h : i = 1
        · rw [decide_eq_true h, h]; rfl
        · rw [decide_eq_false h, decide_eq_false]
          intro z
          have := V.int.inj z
          omega
      have h9 := hL.le
      refine et_is (et_and (a := decide (i = 1)) (b := false) (et_is (et_test (ev_op (ev_var rfl) ev_c (rv_eq rfl))) di) fun hb1 => et_is (et_and (a := decide (2 < L.length)) (b := false) (et_is (et_test (ev_op (ev_lenT (z := L) (ev_var rfl) (by omega)) ev_c rv_I0)) ?_) fun hb2 => ?_) (Bool.and_false _)) (Bool.and_false _)
      · by_cases h : 2 < L.length
        · rw [decide_eq_true h, decide_eq_true]; omega
        · rw [decide_eq_false h, decide_eq_false]; omega
      · have hne := m_peo hL hC (hp (of_decide_eq_true hb1) (of_decide_eq_true hb2))
        refine et_is (et_test (ev_op (ev_cal (ea_cons (ev_var rfl) ea_nil) fun H11 e11 Q q E => ⟨a, t, L, C, rfl, web_ex e11 w10, h9, q⟩) ev_c fun H11 _ Q q => ⟨rfl, q H11 (Ex.refl _)⟩)) ?_
        cases ho : elimOf L C with
        | none => exact absurd ho hne
        | some o => rfl
    obtain ⟨⟨y1, y2, y3, rfl⟩, x7, d7⟩ := hP
    exact s_ret (v := .bl true) ev_c fun H8 e8 => q H8 (x7.trans (ExM.of e8)) (d7.ex e8)
def spLaw (K : PySem.W.Frag) : Sp := fun vs H Q _ => ∃ (a : Addr) (ns : List Int), vs = [.ref a] ∧ SqL K H a (ns.map V.int) ∧ ns.length ≤ 63 ∧ ∀ H', Q (.bl true) H'
theorem cal_law {ff : Addr} {fd : FuncData} (wk : WK K W) (g : Top K mg W) (F : L2.Fun K "law" "law" slaw ff fd) {t0 : Addr} (ht0 : ∀ H : Hp, SqT K H t0 []) (c_law_dice : Cal P w K mg base 1 "_law_dice" (spLDice K)) (c_law_case : Cal P w K mg base 6 "_law_case" (spCase ())) (c_Web0 : C8.Mak P w K mg base 3 "Web" W (spInit K W) [vS [], .ref t0])
    (c_elimination : Cal P w K mg base 2 "elimination" (spElim K W)) (c_is_elimination : Cal P w K mg base 2 "is_elimination" (spElimIs K W)) (c_chordless_ring : Cal P w K mg base 3 "chordless_ring" (spRing K W)) : FnOk P w K mg base L2.CX0 7 ff fd ["_law_script"] (spLaw K) :=
  F.ok (k := 6) cslaw (fun vs H Q E h => by obtain ⟨a, ns, rfl, _⟩ := h; rfl) fun cdv A outer s H vs Q E hr h => by
    obtain ⟨sa, ns, rfl, hs, hn, q⟩ := h
    refine ⟨_, (pss_cons (ps_for PassesOwn.never rfl (pi_range1 (by rfl) g.b_range (pa_cons (pe_callB (cr_max2I rfl) (by rfl) g.b_max bt_max (pa_cons pe_int (pa_cons (pe_callB (cr_min2I rfl) (by rfl) g.b_min bt_min (pa_cons pe_int (pa_cons (pe_callB (cr_lenK K) (by rfl) g.b_len bt_len (pa_cons (pv 0) pa_nil)) pa_nil))) pa_nil))) pa_nil)) (pg_name (i := 1) cslaw.nd rfl (.inl rfl))
    (pss_one (ps_if (pt_not (pt_val (pe_cal c_law_case hr (by decide) (by rfl) (pa_cons (pe_cal c_law_dice hr (by decide) (by rfl) (pa_cons (pv 0) (pa_cons (pv 1) pa_nil))) pa_nil)))) (pss_one (ps_ret pe_bl)) pss_nil)))
    (pss_one (ps_ret (pe_and (pe_cmpR op_eq (pe_cal c_elimination hr (by decide) (by rfl) (pa_cons (pe_mk0 c_Web0 hr (by decide) (by rfl)) pa_nil)) pe_str (by rfl)) (pe_and (pe_cal c_is_elimination hr (by decide) (by rfl) (pa_cons (pe_mk0 c_Web0 hr (by decide) (by rfl)) (pa_cons pe_str pa_nil))) (pe_one (pe_cmpR op_isN1 (pe_cal c_chordless_ring hr (by decide) (by rfl) (pa_cons (pe_mk0 c_Web0 hr (by decide) (by rfl)) pa_nil)) pe_non (by rfl)))))))), ?_⟩
    have hmk : ∀ (σ : L2.St) (H1 : Hp) (Q : VK), (∀ a H2, Ex H1 H2 → WebAt K W H2 a t0 [] [] → Q (.ref a) H2) → tMake W (spInit K W) [vS [], .ref t0] E0 tNil σ H1 Q := fun σ H1 Q k x dx hx hdx hne => made (C := []) (L := []) hx hdx hne (ht0 _) good_nil fun H2 e2 hw => k x H2 e2 hw
    have bound : ∃ n : Nat, n ≤ 3 ∧ (if (if ((ns.length : Nat) : Int) < 3 then ((ns.length : Nat) : Int) else 3) > 1 then (if ((ns.length : Nat) : Int) < 3 then ((ns.length : Nat) : Int) else 3) else 1) = (n : Int) := by
      by_cases h1 : ((ns.length : Nat) : Int) < 3
      · rw [if_pos h1]
        by_cases h2 : ((ns.length : Nat) : Int) > 1
        · rw [if_pos h2]; exact ⟨ns.length, by omega, rfl⟩
        · rw [if_neg h2]; exact ⟨1, by omega, rfl⟩
      · rw [if_neg h1, if_pos (by decide)]; exact ⟨3, by omega, rfl⟩
    obtain ⟨n, hn3, hb⟩ := bound
    refine q_forR1 (n := (n : Int)) (ea_cons (ev_is (ev_max2I ev_c (ev_min2I ev_c (ev_len (ev_var rfl) hs))) (by rw [List.length_map, hb])) ea_nil) (by omega) (fun i σ H' => (∃ y1, σ = [some (.ref sa), y1]) ∧ Ex H H') (fun H7 e7 => ⟨⟨_, rfl⟩, e7⟩) (fun i σ' H7 hi hP => ?bd) (fun σ' H7 hP => ?_)
    case bd =>
      obtain ⟨⟨y1, rfl⟩, e7⟩ := hP
      refine s_notR (fun H8 => Ex H H8) (fun Q k => ?_) fun H8 e8 => ⟨⟨_, rfl⟩, e8⟩
      refine ⟨.ref sa, rfl, .int (i : Int), rfl, sa, ns, i, rfl, ex_l e7 hs, by omega, fun l H8 hl e8 d8 => ?_⟩
      refine ⟨l, rfl, d8, fun H9 x9 d9 => k H9 ?_⟩
      exact ExM.ex (e7.trans e8) (fresh_back e7 hl) x9
    obtain ⟨⟨y1, rfl⟩, e7⟩ := hP
    refine s_ret (v := .bl true) ?_ fun H8 e8 => q H8
    refine ev_is (ev_andV (a := true) (b := true) (ev_is (v := .bl (decide (vS [] = vS []))) (ev_op (x := vS []) (fun H8 e8 Q k => tcall1 (hmk _ H8 _ fun a H9 e9 hw => ⟨a, t0, [], [], rfl, hw, by decide, fun H10 e10 => k H10 (e9.trans e10)⟩)) ev_c (rv_eq rfl)) (by rw [decide_eq_true rfl])) fun _ => ev_is (ev_andV (a := true) (b := true) (fun H8 e8 Q k => tcall1 (hmk _ H8 _ fun a H9 e9 hw => ⟨a, t0, [], [], vS [], rfl, hw, by decide, .inl ⟨[], rfl, by decide, fun H10 e10 => k H10 (e9.trans e10)⟩⟩)) fun _ => ?_) rfl) rfl
    exact ev_is (ev_op (x := .non) (fun H8 e8 Q k => tcall1 (hmk _ H8 _ fun a H9 e9 hw => ⟨a, t0, [], [], rfl, hw, by decide, .nil, fun H10 e10 => k H10 (e9.trans e10)⟩)) ev_c fun H11 _ Q q => ⟨rfl, q H11 (Ex.refl _)⟩) rfl
end
end WW

/-! what the top has written; all defs joined -/
namespace WW
open PySem PySem.Spec PyProof.Rows L2 Evl
/-- a def without defaults in the facts -/
def DefK (K : PySem.W.Frag) (x : Str) (st : Stmt) : Prop := ∃ (f : Addr) (oc : Value) (od an : Option Addr) (osl : Array (Option Value)) (kV doc pm cdv ct : Value), PySem.W.nsIn K mainGlobals x = some (some (.ref f)) ∧
  K.lookup f = some ⟨oc, od, .func (PySem.W.fnOf x x (defArgs st) (defBody st) (defScope st) .none kV doc pm an cdv ct), osl⟩ ∧ PySem.W.codeIn K cdv x = true ∧ PySem.W.keepIn K (.ref f) = true
/-- a method without defaults -/
def MethK (K : PySem.W.Frag) (f : Addr) (x qual : Str) (st : Stmt) : Prop := ∃ (oc : Value) (od an : Option Addr) (osl : Array (Option Value)) (kV doc pm cdv ct : Value),
  K.lookup f = some ⟨oc, od, .func (PySem.W.fnOf x qual (defArgs st) (defBody st) (defScope st) .none kV doc pm an cdv ct), osl⟩ ∧ PySem.W.codeIn K cdv qual = true ∧ PySem.W.keepIn K (.ref f) = true
def PropK (K : PySem.W.Frag) (W : Addr) (x qual : Str) (st : Stmt) : Prop := ∃ (p g : Addr) (rest : List Value), PySem.W.findIn K (.ref W) x = some (some (.ref p)) ∧ PySem.W.specialIn K (.ref p) "__get__" = some (some (.builtin "property.__get__")) ∧ PySem.W.takesIn K (.ref p) = some true ∧
  PySem.W.recIn K p "property" = some (.ref g :: rest) ∧ MethK K g x qual st
def SlotK (K : PySem.W.Frag) (W : Addr) (f : Str) (i : Nat) : Prop := ∃ p : Addr, PySem.W.findIn K (.ref W) f = some (some (.ref p)) ∧ PySem.W.specialIn K (.ref p) "__get__" = some (some (.builtin "member_descriptor.__get__")) ∧ PySem.W.takesIn K (.ref p) = some true ∧
  PySem.W.typeIn K (.ref p) = some (.type "member_descriptor") ∧ PySem.W.slotIn K p W = some i
/-- the class's own def of what it makes, with two defaults -/
def InitK (K : PySem.W.Frag) (W t0 : Addr) (st : Stmt) : Prop := ∃ (f D : Addr) (tk : Tok) (oD oT : Obj) (n m : Nat) (oc : Value) (od an : Option Addr) (osl : Array (Option Value)) (kV doc pm cdv ct : Value),
  PySem.W.findIn K (.ref W) "__init__" = some (some (.ref f)) ∧ PySem.W.isFn K (.ref f) = true ∧
  K.lookup f = some ⟨oc, od, .func (PySem.W.fnOf "__init__" "Web.__init__" (defArgs st) (defBody st) (defScope st) (.ref D) kV doc pm an cdv ct), osl⟩ ∧ PySem.W.codeIn K cdv "Web.__init__" = true ∧ PySem.W.keepIn K (.ref f) = true ∧
  K.lookup D = some oD ∧ oD.data = .seq [Value.str (S []) tk, .ref t0].toArray n ∧ K.lookup t0 = some oT ∧ oT.cls = .type "tuple" ∧ oT.data = .seq #[] m
theorem defX_of {K : PySem.W.Frag} {h : Heap} {mg : Str → Option Value} {x : Str} {st : Stmt} {ps : List Str} (X : K.In h) (G : h.Ns mainGlobals mg) (d : DefK K x st)
    (hb : ∀ (kV doc pm : Value) (an : Option Addr) (cdv ct : Value) (us : List Value), us.length = ps.length → bindArgs (PySem.W.fnOf x x (defArgs st) (defBody st) (defScope st) .none kV doc pm an cdv ct) ⟨us, []⟩ = pure (ps.zip us)) : DefX K mg x st ps := by
  obtain ⟨f, oc, od, an, osl, kV, doc, pm, cdv, ct, a, l, c, k⟩ := d
  have F := fun_mk (st := st) l c k
  exact ⟨f, _, F, PySem.W.mg_of X G a, F.binds hb⟩

theorem defK_mk {K : PySem.W.Frag} {x : Str} {st : Stmt} {f : Addr} {oc : Value} {od an : Option Addr} {osl : Array (Option Value)} {kV doc pm cdv ct : Value} (a : PySem.W.nsIn K mainGlobals x = some (some (.ref f)))
    (l : K.lookup f = some ⟨oc, od, .func (PySem.W.fnOf x x (defArgs st) (defBody st) (defScope st) .none kV doc pm an cdv ct), osl⟩) (c : PySem.W.codeIn K cdv x = true) (k : PySem.W.keepIn K (.ref f) = true) : DefK K x st := ⟨f, oc, od, an, osl, kV, doc, pm, cdv, ct, a, l, c, k⟩
theorem slotK_mk {K : PySem.W.Frag} {W p : Addr} {f : Str} {i : Nat} (a : PySem.W.findIn K (.ref W) f = some (some (.ref p))) (b : PySem.W.specialIn K (.ref p) "__get__" = some (some (.builtin "member_descriptor.__get__"))) (c : PySem.W.takesIn K (.ref p) = some true)
    (d : PySem.W.typeIn K (.ref p) = some (.type "member_descriptor")) (e : PySem.W.slotIn K p W = some i) : SlotK K W f i := ⟨p, a, b, c, d, e⟩
theorem propK_mk {K : PySem.W.Frag} {W p g : Addr} {rest : List Value} {x qual : Str} {st : Stmt} {oc : Value} {od an : Option Addr} {osl : Array (Option Value)} {kV doc pm cdv ct : Value} (a : PySem.W.findIn K (.ref W) x = some (some (.ref p)))
    (b : PySem.W.specialIn K (.ref p) "__get__" = some (some (.builtin "property.__get__"))) (c : PySem.W.takesIn K (.ref p) = some true) (d : PySem.W.recIn K p "property" = some (.ref g :: rest))
    (l : K.lookup g = some ⟨oc, od, .func (PySem.W.fnOf x qual (defArgs st) (defBody st) (defScope st) .none kV doc pm an cdv ct), osl⟩) (e : PySem.W.codeIn K cdv qual = true) (k : PySem.W.keepIn K (.ref g) = true) : PropK K W x qual st :=
  ⟨p, g, rest, a, b, c, d, oc, od, an, osl, kV, doc, pm, cdv, ct, l, e, k⟩
theorem initK_mk {K : PySem.W.Frag} {W t0 : Addr} {st : Stmt} {f D : Addr} {tk : Tok} {oD oT : Obj} {n m : Nat} {oc : Value} {od an : Option Addr} {osl : Array (Option Value)} {kV doc pm cdv ct : Value}
    (a : PySem.W.findIn K (.ref W) "__init__" = some (some (.ref f))) (b : PySem.W.isFn K (.ref f) = true) (l : K.lookup f = some ⟨oc, od, .func (PySem.W.fnOf "__init__" "Web.__init__" (defArgs st) (defBody st) (defScope st) (.ref D) kV doc pm an cdv ct), osl⟩)
    (c : PySem.W.codeIn K cdv "Web.__init__" = true) (k : PySem.W.keepIn K (.ref f) = true) (lD : K.lookup D = some oD) (dD : oD.data = .seq #[Value.str (S []) tk, .ref t0] n) (lT : K.lookup t0 = some oT) (cT : oT.cls = .type "tuple") (dT : oT.data = .seq #[] m) : InitK K W t0 st :=
  ⟨f, D, tk, oD, oT, n, m, oc, od, an, osl, kV, doc, pm, cdv, ct, a, b, l, c, k, lD, dD, lT, cT, dT⟩
theorem cst_mk {K : PySem.W.Frag} {x : Str} {i : Int} {t : Tok} (h : PySem.W.nsIn K mainGlobals x = some (some (.int i t))) : ∃ t, PySem.W.nsIn K mainGlobals x = some (some (.int i t)) := ⟨t, h⟩

structure AllK (K : PySem.W.Frag) (W t0 : Addr) : Prop where
  d_is_letter : DefK K "is_letter" sis_letter
  d_are_ascending : DefK K "are_ascending" sare_ascending
  d_pair_of : DefK K "pair_of" spair_of
  d_pairs_of : DefK K "pairs_of" spairs_of
  d_are_letters : DefK K "are_letters" sare_letters
  d_are_conflicts : DefK K "are_conflicts" sare_conflicts
  d_close_row : DefK K "close_row" sclose_row
  d_require_web : DefK K "require_web" srequire_web
  d_is_loose_from : DefK K "is_loose_from" sis_loose_from
  d_groups_of_one_more : DefK K "groups_of_one_more" sgroups_of_one_more
  d_loose_groups : DefK K "loose_groups" sloose_groups
  d_bare_paths : DefK K "bare_paths" sbare_paths
  d_paths_of_four : DefK K "paths_of_four" spaths_of_four
  d_is_simple : DefK K "is_simple" sis_simple
  d_elimination : DefK K "elimination" selimination
  d_is_elimination : DefK K "is_elimination" sis_elimination
  d_rings_by : DefK K "rings_by" srings_by
  d_chordless_ring : DefK K "chordless_ring" schordless_ring
  d_claw : DefK K "claw" sclaw
  d_is_center : DefK K "is_center" sis_center
  d_fan : DefK K "fan" sfan
  d__law_dice : DefK K "_law_dice" s_law_dice
  d__law_roll : DefK K "_law_roll" s_law_roll
  d__law_mixed : DefK K "_law_mixed" s_law_mixed
  d__law_some : DefK K "_law_some" s_law_some
  d__law_pairs : DefK K "_law_pairs" s_law_pairs
  d__law_conflicts : DefK K "_law_conflicts" s_law_conflicts
  d__law_clash : DefK K "_law_clash" s_law_clash
  d__law_any_letters : DefK K "_law_any_letters" s_law_any_letters
  d__law_bare_paths : DefK K "_law_bare_paths" s_law_bare_paths
  d__law_near : DefK K "_law_near" s_law_near
  d__law_eliminates : DefK K "_law_eliminates" s_law_eliminates
  d__law_rings : DefK K "_law_rings" s_law_rings
  d__law_claws : DefK K "_law_claws" s_law_claws
  d__law_fans : DefK K "_law_fans" s_law_fans
  d__law_first : DefK K "_law_first" s_law_first
  d__law_right : DefK K "_law_right" s_law_right
  d__law_drawn : DefK K "_law_drawn" s_law_drawn
  d__law_case : DefK K "_law_case" s_law_case
  d_law : DefK K "law" slaw
  n_len : PySem.W.nsIn K mainGlobals "len" = some none
  n_all : PySem.W.nsIn K mainGlobals "all" = some none
  n_any : PySem.W.nsIn K mainGlobals "any" = some none
  n_min : PySem.W.nsIn K mainGlobals "min" = some none
  n_max : PySem.W.nsIn K mainGlobals "max" = some none
  n_sorted : PySem.W.nsIn K mainGlobals "sorted" = some none
  n_isinstance : PySem.W.nsIn K mainGlobals "isinstance" = some none
  n_abs : PySem.W.nsIn K mainGlobals "abs" = some none
  n_list : PySem.W.nsIn K mainGlobals "list" = some none
  n_tuple : PySem.W.nsIn K mainGlobals "tuple" = some none
  n_set : PySem.W.nsIn K mainGlobals "set" = some none
  n_str : PySem.W.nsIn K mainGlobals "str" = some none
  n_int : PySem.W.nsIn K mainGlobals "int" = some none
  n_bool : PySem.W.nsIn K mainGlobals "bool" = some none
  n_range : PySem.W.nsIn K mainGlobals "range" = some none
  n_enumerate : PySem.W.nsIn K mainGlobals "enumerate" = some none
  n_zip : PySem.W.nsIn K mainGlobals "zip" = some none
  web : PySem.W.nsIn K mainGlobals "Web" = some (some (.ref W))
  cM : ∃ t, PySem.W.nsIn K mainGlobals "MAX_LETTERS" = some (some (.int 10 t))
  cR : ∃ t, PySem.W.nsIn K mainGlobals "LEAST_RING" = some (some (.int 4 t))
  c1 : PySem.W.plainGet K W Str.empty = true
  c2 : PySem.W.isClsIn K W = true
  c3 : PySem.W.plainOver K W = true
  c4 : PySem.W.findIn K (.ref W) "__setattr__" = some (some (.builtin "object.__setattr__"))
  s0 : SlotK K W "own_close" 0
  s1 : SlotK K W "own_conflicts" 1
  s2 : SlotK K W "own_letters" 2
  i1 : PySem.W.findIn K (.ref W) "__class__" = some (some (.builtin "object.__class__"))
  i2 : PySem.W.specialIn K (.builtin "object.__class__") "__get__" = some (some (.builtin "getset_descriptor.__get__"))
  i3 : PySem.W.takesIn K (.builtin "object.__class__") = some true
  i4 : PySem.W.mroIn K W (.type "object") = some true
  mks : PySem.W.makesIn K W = true
  kc : PySem.W.keepIn K (.ref W) = true
  ini : InitK K W t0 sWeb___init__
  pL : PropK K W "letters" "Web.letters" sWeb_letters
  pC : PropK K W "conflicts" "Web.conflicts" sWeb_conflicts
theorem kit_self (K : PySem.W.Frag) (W : Addr) : PySem.W.kitOne K (.ref W) (.ref W) = some true := by
  unfold PySem.W.kitOne
  exact if_pos (by simp)
theorem slot_of {K : PySem.W.Frag} {W : Addr} {f : Str} {i : Nat} (h : SlotK K W f i) (hi : i < 1000) : ∃ p, SlX.Slot1 K W f p i := by
  obtain ⟨p, a, b, c, d, e⟩ := h
  exact ⟨p, a, b, c, d, e, hi⟩
theorem prop_of {P : Program} {w : World} {K : PySem.W.Frag} {mg : Str → Option Value} {base : Heap} {W : Addr} {x qual : Str} {st : Stmt} {sp : Sp} (h : PropK K W x qual st)
    (hb : ∀ (kV doc pm : Value) (an : Option Addr) (cdv ct : Value) (us : List Value), us.length = 1 → bindArgs (PySem.W.fnOf x qual (defArgs st) (defBody st) (defScope st) .none kV doc pm an cdv ct) ⟨us, []⟩ = pure ((["self"] : List Str).zip us))
    (ok : ∀ (f : Addr) (fd : FuncData), L2.Fun K x qual st f fd → FnOk P w K mg base L2.CX0 1 f fd ["self"] sp) : PropF P w K mg base W x sp := by
  obtain ⟨p, g, rest, a, b, c, d, oc, od, an, osl, kV, doc, pm, cdv, ct, l, cc, k⟩ := h
  have F := fun_mk (st := st) l cc k
  have R := (ok _ _ F).raw (F.binds (ps := ["self"]) hb) .nil
  have e : (fun vs H Q E => sp (vs ++ []) H Q E) = sp := by
    funext vs H Q E
    rw [List.append_nil]
  rw [e] at R
  exact ⟨p, g, a, b, c, ⟨rest, d⟩, R⟩
theorem init_fun {K : PySem.W.Frag} {W t0 : Addr} (h : InitK K W t0 sWeb___init__) : ∃ (f : Addr) (fd : FuncData), PySem.W.findIn K (.ref W) "__init__" = some (some (.ref f)) ∧ PySem.W.isFn K (.ref f) = true ∧
    FunD K "__init__" "Web.__init__" (defArgs sWeb___init__) (defBody sWeb___init__) (defScope sWeb___init__) [vS [], .ref t0] [] f fd := by
  obtain ⟨f, D, tk, oD, oT, n, m, oc, od, an, osl, kV, doc, pm, cdv, ct, a, b, l, c, k, lD, dD, _⟩ := h
  exact ⟨f, _, a, b, ⟨oc, od, .ref D, kV, doc, pm, an, cdv, ct, osl, rfl, l, c, .inr ⟨fun z => (nomatch z), D, oD, _, n, rfl, lD, dD, .cons ⟨tk, rfl⟩ (.cons rfl .nil)⟩, .inl rfl⟩, k⟩
theorem empty_t {K : PySem.W.Frag} {W t0 : Addr} {st : Stmt} (h : InitK K W t0 st) : ∀ H : Hp, SqT K H t0 [] := fun H => by
  obtain ⟨f, D, tk, oD, oT, n, m, oc, od, an, osl, kV, doc, pm, cdv, ct, a, b, l, c, k, lD, dD, lT, cT, dT⟩ := h
  exact .inr ⟨oT, #[], m, lT, cT, dT, Nat.zero_le _, .nil⟩

theorem all_mk {P : Program} {w : World} {K : PySem.W.Frag} {h : Heap} {mg : Str → Option Value} {fa W t0 : Addr} (X : K.In h) (G : h.Ns mainGlobals mg) (hfa : mg "law" = some (.ref fa)) (A : AllK K W t0) :
    ∃ fd : FuncData, (∀ (s : Shared) (v : Value), BindsTo s fd ⟨[v], []⟩ [("_law_script", v)]) ∧ ∀ base : Heap, K.In base → base.Ns mainGlobals mg → FnOk P w K mg base L2.CX0 7 fa fd ["_law_script"] (spLaw K) := by
  have D_is_letter : DefX K mg "is_letter" sis_letter ["value"] := defX_of X G A.d_is_letter fun _ _ _ _ _ _ us hl => match us, hl with | [_], _ => rfl
  have D_are_ascending : DefX K mg "are_ascending" sare_ascending ["items"] := defX_of X G A.d_are_ascending fun _ _ _ _ _ _ us hl => match us, hl with | [_], _ => rfl
  have D_pair_of : DefX K mg "pair_of" spair_of ["one", "other"] := defX_of X G A.d_pair_of fun _ _ _ _ _ _ us hl => match us, hl with | [_, _], _ => rfl
  have D_pairs_of : DefX K mg "pairs_of" spairs_of ["letters"] := defX_of X G A.d_pairs_of fun _ _ _ _ _ _ us hl => match us, hl with | [_], _ => rfl
  have D_are_letters : DefX K mg "are_letters" sare_letters ["value"] := defX_of X G A.d_are_letters fun _ _ _ _ _ _ us hl => match us, hl with | [_], _ => rfl
  have D_are_conflicts : DefX K mg "are_conflicts" sare_conflicts ["letters", "value"] := defX_of X G A.d_are_conflicts fun _ _ _ _ _ _ us hl => match us, hl with | [_, _], _ => rfl
  have D_close_row : DefX K mg "close_row" sclose_row ["letters", "conflicts", "letter"] := defX_of X G A.d_close_row fun _ _ _ _ _ _ us hl => match us, hl with | [_, _, _], _ => rfl
  have D_require_web : DefX K mg "require_web" srequire_web ["value"] := defX_of X G A.d_require_web fun _ _ _ _ _ _ us hl => match us, hl with | [_], _ => rfl
  have D_is_loose_from : DefX K mg "is_loose_from" sis_loose_from ["web", "letter", "others"] := defX_of X G A.d_is_loose_from fun _ _ _ _ _ _ us hl => match us, hl with | [_, _, _], _ => rfl
  have D_groups_of_one_more : DefX K mg "groups_of_one_more" sgroups_of_one_more ["web", "groups"] := defX_of X G A.d_groups_of_one_more fun _ _ _ _ _ _ us hl => match us, hl with | [_, _], _ => rfl
  have D_loose_groups : DefX K mg "loose_groups" sloose_groups ["web"] := defX_of X G A.d_loose_groups fun _ _ _ _ _ _ us hl => match us, hl with | [_], _ => rfl
  have D_bare_paths : DefX K mg "bare_paths" sbare_paths ["web", "paths"] := defX_of X G A.d_bare_paths fun _ _ _ _ _ _ us hl => match us, hl with | [_, _], _ => rfl
  have D_paths_of_four : DefX K mg "paths_of_four" spaths_of_four ["web"] := defX_of X G A.d_paths_of_four fun _ _ _ _ _ _ us hl => match us, hl with | [_], _ => rfl
  have D_is_simple : DefX K mg "is_simple" sis_simple ["web", "letter", "others"] := defX_of X G A.d_is_simple fun _ _ _ _ _ _ us hl => match us, hl with | [_, _, _], _ => rfl
  have D_elimination : DefX K mg "elimination" selimination ["web"] := defX_of X G A.d_elimination fun _ _ _ _ _ _ us hl => match us, hl with | [_], _ => rfl
  have D_is_elimination : DefX K mg "is_elimination" sis_elimination ["web", "value"] := defX_of X G A.d_is_elimination fun _ _ _ _ _ _ us hl => match us, hl with | [_, _], _ => rfl
  have D_rings_by : DefX K mg "rings_by" srings_by ["web", "path"] := defX_of X G A.d_rings_by fun _ _ _ _ _ _ us hl => match us, hl with | [_, _], _ => rfl
  have D_chordless_ring : DefX K mg "chordless_ring" schordless_ring ["web"] := defX_of X G A.d_chordless_ring fun _ _ _ _ _ _ us hl => match us, hl with | [_], _ => rfl
  have D_claw : DefX K mg "claw" sclaw ["web"] := defX_of X G A.d_claw fun _ _ _ _ _ _ us hl => match us, hl with | [_], _ => rfl
  have D_is_center : DefX K mg "is_center" sis_center ["web", "letter", "others"] := defX_of X G A.d_is_center fun _ _ _ _ _ _ us hl => match us, hl with | [_, _, _], _ => rfl
  have D_fan : DefX K mg "fan" sfan ["web"] := defX_of X G A.d_fan fun _ _ _ _ _ _ us hl => match us, hl with | [_], _ => rfl
  have D_law_dice : DefX K mg "_law_dice" s_law_dice ["_law_script", "_law_spot"] := defX_of X G A.d__law_dice fun _ _ _ _ _ _ us hl => match us, hl with | [_, _], _ => rfl
  have D_law_roll : DefX K mg "_law_roll" s_law_roll ["_law_dice_here", "_law_total"] := defX_of X G A.d__law_roll fun _ _ _ _ _ _ us hl => match us, hl with | [_, _], _ => rfl
  have D_law_mixed : DefX K mg "_law_mixed" s_law_mixed ["_law_dice_here", "_law_items"] := defX_of X G A.d__law_mixed fun _ _ _ _ _ _ us hl => match us, hl with | [_, _], _ => rfl
  have D_law_some : DefX K mg "_law_some" s_law_some ["_law_dice_here", "_law_items"] := defX_of X G A.d__law_some fun _ _ _ _ _ _ us hl => match us, hl with | [_, _], _ => rfl
  have D_law_pairs : DefX K mg "_law_pairs" s_law_pairs ["_law_letters"] := defX_of X G A.d__law_pairs fun _ _ _ _ _ _ us hl => match us, hl with | [_], _ => rfl
  have D_law_conflicts : DefX K mg "_law_conflicts" s_law_conflicts ["_law_dice_here", "_law_letters"] := defX_of X G A.d__law_conflicts fun _ _ _ _ _ _ us hl => match us, hl with | [_, _], _ => rfl
  have D_law_clash : DefX K mg "_law_clash" s_law_clash ["_law_conflicts_here", "_law_one", "_law_other"] := defX_of X G A.d__law_clash fun _ _ _ _ _ _ us hl => match us, hl with | [_, _, _], _ => rfl
  have D_law_any_letters : DefX K mg "_law_any_letters" s_law_any_letters ["_law_dice_here", "_law_least", "_law_most"] := defX_of X G A.d__law_any_letters fun _ _ _ _ _ _ us hl => match us, hl with | [_, _, _], _ => rfl
  have D_law_bare_paths : DefX K mg "_law_bare_paths" s_law_bare_paths ["_law_letters", "_law_conflicts_here", "_law_length"] := defX_of X G A.d__law_bare_paths fun _ _ _ _ _ _ us hl => match us, hl with | [_, _, _], _ => rfl
  have D_law_near : DefX K mg "_law_near" s_law_near ["_law_conflicts_here", "_law_letter", "_law_others"] := defX_of X G A.d__law_near fun _ _ _ _ _ _ us hl => match us, hl with | [_, _, _], _ => rfl
  have D_law_eliminates : DefX K mg "_law_eliminates" s_law_eliminates ["_law_letters", "_law_conflicts_here", "_law_order"] := defX_of X G A.d__law_eliminates fun _ _ _ _ _ _ us hl => match us, hl with | [_, _, _], _ => rfl
  have D_law_rings : DefX K mg "_law_rings" s_law_rings ["_law_letters", "_law_conflicts_here"] := defX_of X G A.d__law_rings fun _ _ _ _ _ _ us hl => match us, hl with | [_, _], _ => rfl
  have D_law_claws : DefX K mg "_law_claws" s_law_claws ["_law_letters", "_law_conflicts_here"] := defX_of X G A.d__law_claws fun _ _ _ _ _ _ us hl => match us, hl with | [_, _], _ => rfl
  have D_law_fans : DefX K mg "_law_fans" s_law_fans ["_law_letters", "_law_conflicts_here"] := defX_of X G A.d__law_fans fun _ _ _ _ _ _ us hl => match us, hl with | [_, _], _ => rfl
  have D_law_first : DefX K mg "_law_first" s_law_first ["_law_conflicts_here", "_law_letter", "_law_left"] := defX_of X G A.d__law_first fun _ _ _ _ _ _ us hl => match us, hl with | [_, _, _], _ => rfl
  have D_law_right : DefX K mg "_law_right" s_law_right ["_law_dice_here", "_law_web"] := defX_of X G A.d__law_right fun _ _ _ _ _ _ us hl => match us, hl with | [_, _], _ => rfl
  have D_law_drawn : DefX K mg "_law_drawn" s_law_drawn ["_law_dice_here", "_law_letters", "_law_way"] := defX_of X G A.d__law_drawn fun _ _ _ _ _ _ us hl => match us, hl with | [_, _, _], _ => rfl
  have D_law_case : DefX K mg "_law_case" s_law_case ["_law_dice_here"] := defX_of X G A.d__law_case fun _ _ _ _ _ _ us hl => match us, hl with | [_], _ => rfl
  have D_law : DefX K mg "law" slaw ["_law_script"] := defX_of X G A.d_law fun _ _ _ _ _ _ us hl => match us, hl with | [_], _ => rfl
  have eM : ∃ u, mg "MAX_LETTERS" = some u ∧ RelV (.int 10) u := by
    obtain ⟨t, e⟩ := A.cM
    exact ⟨_, PySem.W.mg_of X G e, t, rfl⟩
  have eR : ∃ u, mg "LEAST_RING" = some u ∧ RelV (.int 4) u := by
    obtain ⟨t, e⟩ := A.cR
    exact ⟨_, PySem.W.mg_of X G e, t, rfl⟩
  have g : Top K mg W := { b_len := PySem.W.mg_none_of X G A.n_len, b_all := PySem.W.mg_none_of X G A.n_all, b_any := PySem.W.mg_none_of X G A.n_any, b_min := PySem.W.mg_none_of X G A.n_min, b_max := PySem.W.mg_none_of X G A.n_max, b_sorted := PySem.W.mg_none_of X G A.n_sorted, b_isinstance := PySem.W.mg_none_of X G A.n_isinstance, b_abs := PySem.W.mg_none_of X G A.n_abs, b_list := PySem.W.mg_none_of X G A.n_list, b_tuple := PySem.W.mg_none_of X G A.n_tuple, b_set := PySem.W.mg_none_of X G A.n_set, b_str := PySem.W.mg_none_of X G A.n_str, b_int := PySem.W.mg_none_of X G A.n_int, b_bool := PySem.W.mg_none_of X G A.n_bool, b_range := PySem.W.mg_none_of X G A.n_range, b_enumerate := PySem.W.mg_none_of X G A.n_enumerate, b_zip := PySem.W.mg_none_of X G A.n_zip, webC := PySem.W.mg_of X G A.web, exM := eM, exR := eR }
  have wk : WK K W := ⟨⟨A.c1, A.c2, A.c3, A.c4⟩, slot_of A.s0 (by decide), slot_of A.s1 (by decide), slot_of A.s2 (by decide), ⟨A.i1, A.i2, A.i3, A.i4⟩, kit_self K W⟩
  obtain ⟨fI, fdI, fi, ff, FI⟩ := init_fun A.ini
  have M : Mk K W fI := ⟨A.mks, fi, ff, A.kc⟩
  obtain ⟨ds0, v0, b0⟩ := FI.binds1 (ps := ["self", "letters", "conflicts"]) 1 0 (fun z => nomatch z) rfl fun T kV doc pm an cdv ct us its h1 h2 => match us, its, h1, h2 with
    | [_], [_, _], _, _ => ⟨_, rfl, rfl⟩
  obtain ⟨ds1, v1, b1⟩ := FI.binds1 (ps := ["self", "letters", "conflicts"]) 3 2 (fun z => nomatch z) rfl fun T kV doc pm an cdv ct us its h1 h2 => match us, its, h1, h2 with
    | [_, _, _], [_, _], _, _ => ⟨_, rfl, rfl⟩
  obtain ⟨f, fd, F, hm, b⟩ := D_law.ex
  have e := hfa.symm.trans hm
  cases e
  refine ⟨fd, fun s v => ?_, fun base _ _ => ?_⟩
  · obtain ⟨oc, od, kV, doc, pm, an, cdv, ct, osl, rfl, lk, hcd⟩ := F.ex
    exact .of_eq rfl
  · have p_L : PropF P w K mg base W "letters" (spLetters K W) := prop_of A.pL (fun _ _ _ _ _ _ us hl => match us, hl with | [_], _ => rfl) fun _ _ F => ok_letters wk F
    have p_C : PropF P w K mg base W "conflicts" (spConfl K W) := prop_of A.pC (fun _ _ _ _ _ _ us hl => match us, hl with | [_], _ => rfl) fun _ _ F => ok_conflicts wk F
    have k_law_dice := cal_law_dice (P := P) (w := w) (base := base) g D_law_dice
    have k_law_roll := cal_law_roll (P := P) (w := w) (base := base) g D_law_roll
    have k_law_mixed := cal_law_mixed (P := P) (w := w) (base := base) g D_law_mixed k_law_roll
    have k_law_any_letters := cal_law_any_letters (P := P) (w := w) (base := base) g D_law_any_letters k_law_roll k_law_mixed
    have k_law_some := cal_law_some (P := P) (w := w) (base := base) g D_law_some k_law_roll
    have k_law_pairs := cal_law_pairs (P := P) (w := w) (base := base) g D_law_pairs
    have k_law_conflicts := cal_law_conflicts (P := P) (w := w) (base := base) g D_law_conflicts k_law_pairs k_law_roll k_law_some k_law_mixed
    have k_law_drawn := cal_law_drawn (P := P) (w := w) (base := base) g D_law_drawn k_law_roll k_law_some k_law_mixed k_law_conflicts
    have k_is_letter := cal_is_letter (P := P) (w := w) (base := base) g D_is_letter
    have k_ascT := cal_ascT (P := P) (w := w) (base := base) g D_are_ascending
    have k_are_letters := cal_are_letters (P := P) (w := w) (base := base) g D_are_letters k_is_letter k_ascT
    have k_pairs_of := cal_pairs_of (P := P) (w := w) (base := base) g D_pairs_of
    have k_ascU := cal_ascU (P := P) (w := w) (base := base) g D_are_ascending
    have k_are_conflicts := cal_are_conflicts (P := P) (w := w) (base := base) g D_are_conflicts k_pairs_of k_ascU
    have k_pair_of := cal_pair_of (P := P) (w := w) (base := base) g D_pair_of
    have k_close_row := cal_close_row (P := P) (w := w) (base := base) g D_close_row k_pair_of
    have okI : FnOk P w K mg base L2.CX0 3 fI fdI ["self", "letters", "conflicts"] (spInit K W) := ok_init wk g FI k_are_letters k_are_conflicts k_close_row
    have m_W : C8.Mak P w K mg base 3 "Web" W (spInit K W) [] := ⟨fI, fdI, _, ds1, M, okI, g.webC, b1, v1⟩
    have m_W0 : C8.Mak P w K mg base 3 "Web" W (spInit K W) [vS [], .ref t0] := ⟨fI, fdI, _, ds0, M, okI, g.webC, b0, v0⟩
    have k_require_web := cal_require_web (P := P) (w := w) (base := base) wk g D_require_web
    have k_is_simple := cal_is_simple (P := P) (w := w) (base := base) wk g D_is_simple
    have k_elimination := cal_elimination (P := P) (w := w) (base := base) wk g D_elimination k_require_web k_is_simple
    have k_is_loose_from := cal_is_loose_from (P := P) (w := w) (base := base) wk g D_is_loose_from
    have k_bare_paths := cal_bare_paths (P := P) (w := w) (base := base) wk g D_bare_paths k_is_loose_from
    have k_rings_by := cal_rings_by (P := P) (w := w) (base := base) wk g D_rings_by k_is_loose_from
    have k_chordless_ring := cal_chordless_ring (P := P) (w := w) (base := base) wk g D_chordless_ring k_require_web k_bare_paths k_rings_by
    have k_law_clash := cal_law_clash (P := P) (w := w) (base := base) g D_law_clash
    have k_law_bare_paths := cal_law_bare_paths (P := P) (w := w) (base := base) g D_law_bare_paths k_law_clash
    have k_law_near := cal_law_near (P := P) (w := w) (base := base) g D_law_near k_law_clash
    have k_law_rings := cal_law_rings (P := P) (w := w) (base := base) g D_law_rings k_law_bare_paths k_law_clash k_law_near
    have k_law_eliminates := cal_law_eliminates (P := P) (w := w) (base := base) g D_law_eliminates k_law_near
    have k_is_elimination := cal_is_elimination (P := P) (w := w) (base := base) wk g D_is_elimination k_require_web k_is_simple
    have k_law_first := cal_law_first (P := P) (w := w) (base := base) g D_law_first k_law_near
    have k_law_claws := cal_law_claws (P := P) (w := w) (base := base) g D_law_claws k_law_clash k_law_near
    have k_law_fans := cal_law_fans (P := P) (w := w) (base := base) g D_law_fans k_law_bare_paths k_law_near
    have k_groups_of_one_more := cal_groups_of_one_more (P := P) (w := w) (base := base) wk g D_groups_of_one_more k_is_loose_from
    have k_loose_groups := cal_loose_groups (P := P) (w := w) (base := base) wk g D_loose_groups k_require_web k_groups_of_one_more
    have k_is_center := cal_is_center (P := P) (w := w) (base := base) wk g D_is_center
    have k_claw := cal_claw (P := P) (w := w) (base := base) wk g D_claw k_require_web k_loose_groups k_is_center
    have k_paths_of_four := cal_paths_of_four (P := P) (w := w) (base := base) wk g D_paths_of_four k_bare_paths
    have k_fan := cal_fan (P := P) (w := w) (base := base) wk g D_fan k_require_web k_paths_of_four k_is_center
    have k_law_right := cal_law_right (P := P) (w := w) (base := base) wk g D_law_right p_L p_C k_elimination k_chordless_ring k_law_rings k_law_eliminates k_is_elimination k_law_first k_law_mixed k_law_roll k_law_claws k_law_fans k_claw k_fan
    have k_law_case := cal_law_case (P := P) (w := w) (base := base) wk g D_law_case k_law_any_letters k_law_drawn m_W k_law_right k_elimination
    have k_law := cal_law (P := P) (w := w) (base := base) wk g F (empty_t A.ini) k_law_dice k_law_case m_W0 k_elimination k_is_elimination k_chordless_ring
    exact k_law
end WW

open PySem PySem.W PyProof.Rows
set_option maxHeartbeats 0 in
theorem PySem.Challenge.cw_webwords_k07_whole_eliminations_or_rings_holds : PySem.Challenge.rw_webwords_k07_whole_eliminations_or_rings.Holds := by
  w_on; o_law; k_head; (case hw => w_witness2)
  k_fill
  refine L2.walk_of (l := PySem.Challenge.rw_webwords_k07_whole_eliminations_or_rings) (n := 63) (k := 7) (x := "_law_script") (CX := fun _ => L2.CX0) (sp := fun w => WW.spLaw _) rfl (by decide) rfl ⟨rfl, by decide, by decide⟩ (fun w h Y => PySem.W.kIn_of Y) ?F (fun _ _ a ns hl _ hS => ⟨a, ns, rfl, hS, hl, fun _ => rfl⟩) (fun _ _ _ _ _ h => h)
  case F =>
    intro w mg fa h KX G hmg
    refine' WW.all_mk KX G hmg ?A
    case A =>
      refine' { web := ?web, ini := ?ini, d_is_letter := ?d_is_letter, d_are_ascending := ?d_are_ascending, d_pair_of := ?d_pair_of, d_pairs_of := ?d_pairs_of, d_are_letters := ?d_are_letters, d_are_conflicts := ?d_are_conflicts, d_close_row := ?d_close_row, d_require_web := ?d_require_web, d_is_loose_from := ?d_is_loose_from, d_groups_of_one_more := ?d_groups_of_one_more, d_loose_groups := ?d_loose_groups, d_bare_paths := ?d_bare_paths, d_paths_of_four := ?d_paths_of_four, d_is_simple := ?d_is_simple, d_elimination := ?d_elimination, d_is_elimination := ?d_is_elimination, d_rings_by := ?d_rings_by, d_chordless_ring := ?d_chordless_ring, d_claw := ?d_claw, d_is_center := ?d_is_center, d_fan := ?d_fan, d__law_dice := ?d__law_dice, d__law_roll := ?d__law_roll, d__law_mixed := ?d__law_mixed, d__law_some := ?d__law_some, d__law_pairs := ?d__law_pairs, d__law_conflicts := ?d__law_conflicts, d__law_clash := ?d__law_clash, d__law_any_letters := ?d__law_any_letters, d__law_bare_paths := ?d__law_bare_paths, d__law_near := ?d__law_near, d__law_eliminates := ?d__law_eliminates, d__law_rings := ?d__law_rings, d__law_claws := ?d__law_claws, d__law_fans := ?d__law_fans, d__law_first := ?d__law_first, d__law_right := ?d__law_right, d__law_drawn := ?d__law_drawn, d__law_case := ?d__law_case, d_law := ?d_law, n_len := ?n_len, n_all := ?n_all, n_any := ?n_any, n_min := ?n_min, n_max := ?n_max, n_sorted := ?n_sorted, n_isinstance := ?n_isinstance, n_abs := ?n_abs, n_list := ?n_list, n_tuple := ?n_tuple, n_set := ?n_set, n_str := ?n_str, n_int := ?n_int, n_bool := ?n_bool, n_range := ?n_range, n_enumerate := ?n_enumerate, n_zip := ?n_zip, cM := ?cM, cR := ?cR, c1 := ?c1, c2 := ?c2, c3 := ?c3, c4 := ?c4, s0 := ?s0, s1 := ?s1, s2 := ?s2, i1 := ?i1, i2 := ?i2, i3 := ?i3, i4 := ?i4, mks := ?mks, kc := ?kc, pL := ?pL, pC := ?pC }
      case web => k_is
      case ini => (refine' WW.initK_mk ?j1 ?j2 ?j3 ?j4 ?j5 ?j6 ?j7 ?j8 ?j9 ?j10; (case j1 => k_is); (case j2 => k_is); (case j3 => k_is); (case j4 => k_is); (case j5 => k_is); (case j6 => k_is); (case j7 => exact rfl); (case j8 => k_is); (case j9 => exact rfl); (case j10 => exact rfl))
      case d_is_letter => (refine' WW.defK_mk ?a ?l ?c ?k; (case a => k_is); (case l => k_is); (case c => k_is); (case k => k_is))
      case d_are_ascending => (refine' WW.defK_mk ?a ?l ?c ?k; (case a => k_is); (case l => k_is); (case c => k_is); (case k => k_is))
      case d_pair_of => (refine' WW.defK_mk ?a ?l ?c ?k; (case a => k_is); (case l => k_is); (case c => k_is); (case k => k_is))
      case d_pairs_of => (refine' WW.defK_mk ?a ?l ?c ?k; (case a => k_is); (case l => k_is); (case c => k_is); (case k => k_is))
      case d_are_letters => (refine' WW.defK_mk ?a ?l ?c ?k; (case a => k_is); (case l => k_is); (case c => k_is); (case k => k_is))
      case d_are_conflicts => (refine' WW.defK_mk ?a ?l ?c ?k; (case a => k_is); (case l => k_is); (case c => k_is); (case k => k_is))
      case d_close_row => (refine' WW.defK_mk ?a ?l ?c ?k; (case a => k_is); (case l => k_is); (case c => k_is); (case k => k_is))
      case d_require_web => (refine' WW.defK_mk ?a ?l ?c ?k; (case a => k_is); (case l => k_is); (case c => k_is); (case k => k_is))
      case d_is_loose_from => (refine' WW.defK_mk ?a ?l ?c ?k; (case a => k_is); (case l => k_is); (case c => k_is); (case k => k_is))
      case d_groups_of_one_more => (refine' WW.defK_mk ?a ?l ?c ?k; (case a => k_is); (case l => k_is); (case c => k_is); (case k => k_is))
      case d_loose_groups => (refine' WW.defK_mk ?a ?l ?c ?k; (case a => k_is); (case l => k_is); (case c => k_is); (case k => k_is))
      case d_bare_paths => (refine' WW.defK_mk ?a ?l ?c ?k; (case a => k_is); (case l => k_is); (case c => k_is); (case k => k_is))
      case d_paths_of_four => (refine' WW.defK_mk ?a ?l ?c ?k; (case a => k_is); (case l => k_is); (case c => k_is); (case k => k_is))
      case d_is_simple => (refine' WW.defK_mk ?a ?l ?c ?k; (case a => k_is); (case l => k_is); (case c => k_is); (case k => k_is))
      case d_elimination => (refine' WW.defK_mk ?a ?l ?c ?k; (case a => k_is); (case l => k_is); (case c => k_is); (case k => k_is))
      case d_is_elimination => (refine' WW.defK_mk ?a ?l ?c ?k; (case a => k_is); (case l => k_is); (case c => k_is); (case k => k_is))
      case d_rings_by => (refine' WW.defK_mk ?a ?l ?c ?k; (case a => k_is); (case l => k_is); (case c => k_is); (case k => k_is))
      case d_chordless_ring => (refine' WW.defK_mk ?a ?l ?c ?k; (case a => k_is); (case l => k_is); (case c => k_is); (case k => k_is))
      case d_claw => (refine' WW.defK_mk ?a ?l ?c ?k; (case a => k_is); (case l => k_is); (case c => k_is); (case k => k_is))
      case d_is_center => (refine' WW.defK_mk ?a ?l ?c ?k; (case a => k_is); (case l => k_is); (case c => k_is); (case k => k_is))
      case d_fan => (refine' WW.defK_mk ?a ?l ?c ?k; (case a => k_is); (case l => k_is); (case c => k_is); (case k => k_is))
      case d__law_dice => (refine' WW.defK_mk ?a ?l ?c ?k; (case a => k_is); (case l => k_is); (case c => k_is); (case k => k_is))
      case d__law_roll => (refine' WW.defK_mk ?a ?l ?c ?k; (case a => k_is); (case l => k_is); (case c => k_is); (case k => k_is))
      case d__law_mixed => (refine' WW.defK_mk ?a ?l ?c ?k; (case a => k_is); (case l => k_is); (case c => k_is); (case k => k_is))
      case d__law_some => (refine' WW.defK_mk ?a ?l ?c ?k; (case a => k_is); (case l => k_is); (case c => k_is); (case k => k_is))
      case d__law_pairs => (refine' WW.defK_mk ?a ?l ?c ?k; (case a => k_is); (case l => k_is); (case c => k_is); (case k => k_is))
      case d__law_conflicts => (refine' WW.defK_mk ?a ?l ?c ?k; (case a => k_is); (case l => k_is); (case c => k_is); (case k => k_is))
      case d__law_clash => (refine' WW.defK_mk ?a ?l ?c ?k; (case a => k_is); (case l => k_is); (case c => k_is); (case k => k_is))
      case d__law_any_letters => (refine' WW.defK_mk ?a ?l ?c ?k; (case a => k_is); (case l => k_is); (case c => k_is); (case k => k_is))
      case d__law_bare_paths => (refine' WW.defK_mk ?a ?l ?c ?k; (case a => k_is); (case l => k_is); (case c => k_is); (case k => k_is))
      case d__law_near => (refine' WW.defK_mk ?a ?l ?c ?k; (case a => k_is); (case l => k_is); (case c => k_is); (case k => k_is))
      case d__law_eliminates => (refine' WW.defK_mk ?a ?l ?c ?k; (case a => k_is); (case l => k_is); (case c => k_is); (case k => k_is))
      case d__law_rings => (refine' WW.defK_mk ?a ?l ?c ?k; (case a => k_is); (case l => k_is); (case c => k_is); (case k => k_is))
      case d__law_claws => (refine' WW.defK_mk ?a ?l ?c ?k; (case a => k_is); (case l => k_is); (case c => k_is); (case k => k_is))
      case d__law_fans => (refine' WW.defK_mk ?a ?l ?c ?k; (case a => k_is); (case l => k_is); (case c => k_is); (case k => k_is))
      case d__law_first => (refine' WW.defK_mk ?a ?l ?c ?k; (case a => k_is); (case l => k_is); (case c => k_is); (case k => k_is))
      case d__law_right => (refine' WW.defK_mk ?a ?l ?c ?k; (case a => k_is); (case l => k_is); (case c => k_is); (case k => k_is))
      case d__law_drawn => (refine' WW.defK_mk ?a ?l ?c ?k; (case a => k_is); (case l => k_is); (case c => k_is); (case k => k_is))
      case d__law_case => (refine' WW.defK_mk ?a ?l ?c ?k; (case a => k_is); (case l => k_is); (case c => k_is); (case k => k_is))
      case d_law => (refine' WW.defK_mk ?a ?l ?c ?k; (case a => k_is); (case l => k_is); (case c => k_is); (case k => k_is))
      case n_len => k_is
      case n_all => k_is
      case n_any => k_is
      case n_min => k_is
      case n_max => k_is
      case n_sorted => k_is
      case n_isinstance => k_is
      case n_abs => k_is
      case n_list => k_is
      case n_tuple => k_is
      case n_set => k_is
      case n_str => k_is
      case n_int => k_is
      case n_bool => k_is
      case n_range => k_is
      case n_enumerate => k_is
      case n_zip => k_is
      case c1 => k_is
      case c2 => k_is
      case c3 => k_is
      case c4 => k_is
      case i1 => k_is
      case i2 => k_is
      case i3 => k_is
      case i4 => k_is
      case mks => k_is
      case kc => k_is
      case cM => (refine' WW.cst_mk ?a; (case a => k_is))
      case cR => (refine' WW.cst_mk ?a; (case a => k_is))
      case s0 => (refine' WW.slotK_mk ?a ?b ?c ?d ?e; (case a => k_is); (case b => k_is); (case c => k_is); (case d => k_is); (case e => k_is))
      case s1 => (refine' WW.slotK_mk ?a ?b ?c ?d ?e; (case a => k_is); (case b => k_is); (case c => k_is); (case d => k_is); (case e => k_is))
      case s2 => (refine' WW.slotK_mk ?a ?b ?c ?d ?e; (case a => k_is); (case b => k_is); (case c => k_is); (case d => k_is); (case e => k_is))
      case pL => (refine' WW.propK_mk ?a ?b ?c ?d ?l ?e ?k; (case a => k_is); (case b => k_is); (case c => k_is); (case d => k_is); (case l => k_is); (case e => k_is); (case k => k_is))
      case pC => (refine' WW.propK_mk ?a ?b ?c ?d ?l ?e ?k; (case a => k_is); (case b => k_is); (case c => k_is); (case d => k_is); (case l => k_is); (case e => k_is); (case k => k_is))
