import PyProof.Rows.All
import Wide.All
import OpenK.AllK
import Wide.FinOn
import PySem.Challenge.RW_nn0294_01
open PySem PySem.W PyProof.Rows PySem.Calls
set_option Elab.async false
set_option maxRecDepth 100000
set_option linter.unusedVariables false
set_option linter.unusedSimpArgs false
set_option rowWalk.seconds 0
namespace Mine
set_option maxHeartbeats 8000000 in
open_top hd for PySem.Challenge.rw_nn0294_01
end Mine

noncomputable section
set_option maxHeartbeats 4000000
namespace Mine
theorem fill0 : PySem.Challenge.rw_nn0294_01.Holds → hd.heap_39 = hd.heap_39 := by
  k_fill
  intro _; rfl
@[reducible] def prg := PySem.Challenge.rw_nn0294_01.row.prog

/-- a call of f with these arguments over this ledger comes back, with a result and a ledger that post says; everything else is as it was -/
def Ctr (w : World) (lvl : Nat) (f : Addr) (args : List Value) (news : List (Addr × Obj)) (post : Value → List (Addr × Obj) → Prop) : Prop :=
  ∀ (dp un : Nat) (gd : Option (List Code)) (cn : Str) (cs : Scope) (a : Addr) (ccd : Value) (cl : List (Str × Addr)) (outer : List Env) (A₀ : Around) (base h₀ : Heap) (L : Addr) (m : Str → Option Value) (s : Shared)
    (mean : ExcName → Option Value) (mg mb : Str → Option Value) (Q E : Value → Shared → Prop),
    Below A₀ base outer h₀ → Fr h₀ L s.heap m → (hd.heap_39 w.params).In h₀ → News h₀ L s.heap news → Top hd.view_39 (looseW hd.view_39 []) mean mg mb h₀ → cs.kind = .function → dp + 10 * lvl < recursionLimit → un + 1000 * lvl < cLine →
    (∀ r news' h' tk', Fr h₀ L h' m → News h₀ L h' news' → post r news' → Q r { s with heap := h', toks := tk' }) →
    wpAny (model prg w) (ktrTop dp un gd cn cs L a ccd cl outer) (call (.ref f) args) Q E s

theorem Ctr.mono {w : World} {lvl : Nat} {f : Addr} {args : List Value} {news news2 : List (Addr × Obj)} {post post2 : Value → List (Addr × Obj) → Prop} (h : Ctr w lvl f args news post) (hn : ∀ p ∈ news, p ∈ news2)
    (hp : ∀ r n1, post r n1 → ∃ n2, (∀ p ∈ n2, p ∈ n1) ∧ post2 r n2) : Ctr w lvl f args news2 post2 := by
  k_with_none
  w_top off
  intro dp un gd cn cs a ccd cl outer A₀ base h₀ L m s mean mg mb Q E B F X N T hk hd hu hret
  refine h dp un gd cn cs a ccd cl outer A₀ base h₀ L m s mean mg mb Q E B F X (fun p hpm => N p (hn p hpm)) T hk hd hu ?_
  intro r news' h' tk' F' N' hpost
  obtain ⟨n2, hs, h2⟩ := hp r news' hpost
  exact hret r n2 h' tk' F' (fun p hpm => N' p (hs p hpm)) h2
theorem Ctr.use {w : World} {lvl : Nat} {f : Addr} {args : List Value} {news : List (Addr × Obj)} {post : Value → List (Addr × Obj) → Prop} (C : Ctr w lvl f args news post)
    {dp un : Nat} {gd : Option (List Code)} {cn : Str} {cs : Scope} {a : Addr} {ccd : Value} {cl : List (Str × Addr)} {outer : List Env} {A₀ : Around} {base h₀ : Heap} {L : Addr} {m : Str → Option Value} {s : Shared}
    {mean : ExcName → Option Value} {mg mb : Str → Option Value} {Q E : Value → Shared → Prop}
    (B : Below A₀ base outer h₀) (F : Fr h₀ L s.heap m) (X : (hd.heap_39 w.params).In h₀) (N : News h₀ L s.heap news) (T : Top hd.view_39 (looseW hd.view_39 []) mean mg mb h₀) (hk : cs.kind = .function) (hd : dp + 10 * lvl < recursionLimit) (hu : un + 1000 * lvl < cLine)
    (h : ∀ r news' h' tk', Fr h₀ L h' m → News h₀ L h' news' → post r news' → Q r { s with heap := h', toks := tk' }) :
    wpAny (model prg w) (ktrTop dp un gd cn cs L a ccd cl outer) (call (.ref f) args) Q E s := C dp un gd cn cs a ccd cl outer A₀ base h₀ L m s mean mg mb Q E B F X N T hk hd hu h
/-- the same, for a result that is an int over a ledger that is told -/
theorem Ctr.useN {w : World} {lvl : Nat} {f : Addr} {args : List Value} {news N1 : List (Addr × Obj)} {P : Int → Prop} (C : Ctr w lvl f args news (fun v n' => n' = N1 ∧ ∃ x t, v = .int x t ∧ P x))
    {dp un : Nat} {gd : Option (List Code)} {cn : Str} {cs : Scope} {a : Addr} {ccd : Value} {cl : List (Str × Addr)} {outer : List Env} {A₀ : Around} {base h₀ : Heap} {L : Addr} {m : Str → Option Value} {s : Shared}
    {mean : ExcName → Option Value} {mg mb : Str → Option Value} {Q E : Value → Shared → Prop}
    (B : Below A₀ base outer h₀) (F : Fr h₀ L s.heap m) (X : (hd.heap_39 w.params).In h₀) (N : News h₀ L s.heap news) (T : Top hd.view_39 (looseW hd.view_39 []) mean mg mb h₀) (hk : cs.kind = .function) (hd : dp + 10 * lvl < recursionLimit) (hu : un + 1000 * lvl < cLine)
    (h : ∀ x t h' tk', Fr h₀ L h' m → News h₀ L h' N1 → P x → Q (.int x t) { s with heap := h', toks := tk' }) :
    wpAny (model prg w) (ktrTop dp un gd cn cs L a ccd cl outer) (call (.ref f) args) Q E s := by
  refine Ctr.use C B F X N T hk hd hu ?_
  rintro r n' h' tk' F' N' ⟨rfl, x, t, rfl, hp⟩
  exact h x t h' tk' F' N' hp
/-- the same, for None -/
theorem Ctr.useE {w : World} {lvl : Nat} {f : Addr} {args : List Value} {news N1 : List (Addr × Obj)} (C : Ctr w lvl f args news (fun v n' => v = .none ∧ n' = N1))
    {dp un : Nat} {gd : Option (List Code)} {cn : Str} {cs : Scope} {a : Addr} {ccd : Value} {cl : List (Str × Addr)} {outer : List Env} {A₀ : Around} {base h₀ : Heap} {L : Addr} {m : Str → Option Value} {s : Shared}
    {mean : ExcName → Option Value} {mg mb : Str → Option Value} {Q E : Value → Shared → Prop}
    (B : Below A₀ base outer h₀) (F : Fr h₀ L s.heap m) (X : (hd.heap_39 w.params).In h₀) (N : News h₀ L s.heap news) (T : Top hd.view_39 (looseW hd.view_39 []) mean mg mb h₀) (hk : cs.kind = .function) (hd : dp + 10 * lvl < recursionLimit) (hu : un + 1000 * lvl < cLine)
    (h : ∀ h' tk', Fr h₀ L h' m → News h₀ L h' N1 → Q .none { s with heap := h', toks := tk' }) :
    wpAny (model prg w) (ktrTop dp un gd cn cs L a ccd cl outer) (call (.ref f) args) Q E s := by
  refine Ctr.use C B F X N T hk hd hu ?_
  rintro r n' h' tk' F' N' ⟨rfl, rfl⟩
  exact h h' tk' F' N'
end Mine
end

noncomputable section
set_option maxHeartbeats 4000000
namespace Mine
theorem fill1 : PySem.Challenge.rw_nn0294_01.Holds → hd.heap_39 = hd.heap_39 := by
  k_fill
  intro _; rfl
theorem fdm {x most : Int} (h0 : 0 ≤ x) (h1 : x < 10 ^ 60) (hm : 0 < most) : 0 ≤ x.fmod most ∧ x.fmod most < most ∧ 0 ≤ x.fdiv most ∧ x.fdiv most < 10 ^ 60 := by
  rw [Int.fmod_eq_emod_of_nonneg _ (by omega), Int.fdiv_eq_ediv_of_nonneg _ (by omega)]
  refine ⟨Int.emod_nonneg _ (by omega), Int.emod_lt_of_pos _ hm, Int.ediv_nonneg h0 (by omega), ?_⟩
  exact Int.lt_of_le_of_lt (Int.ediv_le_self _ h0) h1
theorem fmd {x y : Int} (hy : 0 < y) (hy' : y ≤ 10 ^ 60) : 0 ≤ x.fmod y ∧ x.fmod y < 10 ^ 60 := by
  rw [Int.fmod_eq_emod_of_nonneg _ (by omega)]
  exact ⟨Int.emod_nonneg _ (by omega), Int.lt_of_lt_of_le (Int.emod_lt_of_pos _ hy) hy'⟩
theorem draw (w : World) (P Cl : Nat) (p0 p1 most : Int) (t0 t1 tm : Tok) (n k : Nat) (cs : List Value) (ns : List Int) (rest : List (Addr × Obj)) (hi : IntsAre cs ns) (h1 : 0 < ns.length) (h2 : ns.length ≤ 40)
   (hP : P ≠ Cl) (hoff : OwnOff rest [P]) (hp0 : 0 ≤ p0) (hp0' : p0 < 10 ^ 60) (hp1 : 0 ≤ p1) (hp1' : p1 < 1000) (hm : 0 < most) (hm' : most ≤ 40) :
   Ctr w 1 91 [.ref P, .int most tm] ((P, W.listOf #[.int p0 t0, .int p1 t1, .ref Cl] n) :: (Cl, W.listOf cs.toArray k) :: rest)
    (fun r news' => ∃ d td q0 q1 u0 u1 n', r = .int d td ∧ 0 ≤ d ∧ d < most ∧ 0 ≤ q0 ∧ q0 < 10 ^ 60 ∧ 0 ≤ q1 ∧ q1 ≤ p1 + 1 ∧ news' = ((P, W.listOf #[.int q0 u0, .int q1 u1, .ref Cl] n') :: (Cl, W.listOf cs.toArray k) :: rest)) := by
  k_with_none
  w_top off
  intro dp un gd cn cs a ccd cl outer A₀ base h₀ L m s mean mg mb Q E B F X N T hk hd hu hret
  refine wpAny_call ?_
  k_dflt ktr_enter
  k_steps
  all_goals (refine' hret _ _ _ _ (by k_asm) (by k_asm) ?_)
  all_goals (refine' ⟨_, _, _, _, _, _, _, rfl, ?_, ?_, ?_, ?_, ?_, ?_, rfl⟩)
  all_goals first | omega | skip
  all_goals first
    | exact (fdm (by assumption) (by assumption) hm).1 | exact (fdm (by assumption) (by assumption) hm).2.1 | exact (fdm (by assumption) (by assumption) hm).2.2.1 | exact (fdm (by assumption) (by assumption) hm).2.2.2
    | exact (fdm (fmd (by decide) (by decide)).1 (fmd (by decide) (by decide)).2 hm).1 | exact (fdm (fmd (by decide) (by decide)).1 (fmd (by decide) (by decide)).2 hm).2.1 | exact (fdm (fmd (by decide) (by decide)).1 (fmd (by decide) (by decide)).2 hm).2.2.1 | exact (fdm (fmd (by decide) (by decide)).1 (fmd (by decide) (by decide)).2 hm).2.2.2
end Mine
end

noncomputable section
set_option maxHeartbeats 4000000
namespace Mine
theorem fillQ0 : PySem.Challenge.rw_nn0294_01.Holds → hd.heap_39 = hd.heap_39 := by
  k_fill
  intro _; rfl
/-- no address twice -/
def ND (l : List (Addr × Obj)) : Prop := (l.map (·.1)).Nodup
abbrev lo (vs : List Value) (k : Nat) : Obj := W.listOf vs.toArray k
structure QC where
  Qa : Addr
  D : Addr
  act : Addr
  ina : Addr
  nba : Addr
  late : Addr
  later : Addr
  ts : Nat → Nat
  now : Int
  tn : Tok
  head : Int
  th : Tok
  va : List Value
  ka : Nat
  vi : List Value
  ki : Nat
  vn : List Value
  kn : Nat
  vl : List Value
  kl : Nat
  od : Obj
abbrev qd (w : World) (ts : Nat → Nat) (now : Int) (tn : Tok) (act : Addr) (head : Int) (th : Tok) (ina nba late later : Addr) : Obj :=
  dictOf [⟨PyData.keyHash w.params "now", .str "now" (ts 0), .int now tn⟩, ⟨PyData.keyHash w.params "active", .str "active" (ts 1), .ref act⟩,
   ⟨PyData.keyHash w.params "head", .str "head" (ts 2), .int head th⟩, ⟨PyData.keyHash w.params "inactive", .str "inactive" (ts 3), .ref ina⟩,
   ⟨PyData.keyHash w.params "nba", .str "nba" (ts 4), .ref nba⟩, ⟨PyData.keyHash w.params "late", .str "late" (ts 5), .ref late⟩, ⟨PyData.keyHash w.params "later", .str "later" (ts 6), .ref later⟩] 7
def QC.led (w : World) (c : QC) : List (Addr × Obj) :=
  [(c.Qa, instObj 80 c.D), (c.D, qd w c.ts c.now c.tn c.act c.head c.th c.ina c.nba c.late c.later), (c.act, lo c.va c.ka), (c.ina, lo c.vi c.ki), (c.nba, lo c.vn c.kn), (c.late, lo c.vl c.kl), (c.later, c.od)]
theorem nd_ne {pre post : List (Addr × Obj)} {x : Addr} {o : Obj} (h : ND (pre ++ (x, o) :: post)) : ∀ p ∈ pre, p.1 ≠ x := fun p hp e => by
  unfold ND at h
  rw [List.map_append, List.map_cons] at h
  exact (List.nodup_append.mp h).2.2 p.1 (List.mem_map.mpr ⟨p, hp, rfl⟩) x (List.mem_cons_self ..) e
theorem nd_own {pre post : List (Addr × Obj)} (h : ND (pre ++ post)) : OwnOff post (pre.map (·.1)) := fun p hp x hx e => by
  unfold ND at h
  rw [List.map_append] at h
  exact (List.nodup_append.mp h).2.2 x hx p.1 (List.mem_map.mpr ⟨p, hp, rfl⟩) e.symm
theorem nd7 {a b c d e f g : Addr} {oa ob oc od oe of og : Obj} {rest : List (Addr × Obj)} (h : ND ((a, oa) :: (b, ob) :: (c, oc) :: (d, od) :: (e, oe) :: (f, of) :: (g, og) :: rest)) :
   ((a ≠ b ∧ a ≠ c ∧ a ≠ d ∧ a ≠ e ∧ a ≠ f ∧ a ≠ g) ∧ (b ≠ c ∧ b ≠ d ∧ b ≠ e ∧ b ≠ f ∧ b ≠ g) ∧ (c ≠ d ∧ c ≠ e ∧ c ≠ f ∧ c ≠ g) ∧ (d ≠ e ∧ d ≠ f ∧ d ≠ g) ∧ (e ≠ f ∧ e ≠ g) ∧ f ≠ g) ∧ OwnOff rest [a, b, c, d, e, f, g] := by
  have hb := nd_ne (pre := [(a, oa)]) (x := b) (o := ob) h
  have hc := nd_ne (pre := [(a, oa), (b, ob)]) (x := c) (o := oc) h
  have hd := nd_ne (pre := [(a, oa), (b, ob), (c, oc)]) (x := d) (o := od) h
  have he := nd_ne (pre := [(a, oa), (b, ob), (c, oc), (d, od)]) (x := e) (o := oe) h
  have hf := nd_ne (pre := [(a, oa), (b, ob), (c, oc), (d, od), (e, oe)]) (x := f) (o := of) h
  have hg := nd_ne (pre := [(a, oa), (b, ob), (c, oc), (d, od), (e, oe), (f, of)]) (x := g) (o := og) h
  have hz := nd_own (pre := [(a, oa), (b, ob), (c, oc), (d, od), (e, oe), (f, of), (g, og)]) h
  exact ⟨⟨⟨hb (a, oa) (by (repeat (first | exact List.mem_cons_self .. | apply List.mem_cons_of_mem))), hc (a, oa) (by (repeat (first | exact List.mem_cons_self .. | apply List.mem_cons_of_mem))), hd (a, oa) (by (repeat (first | exact List.mem_cons_self .. | apply List.mem_cons_of_mem))), he (a, oa) (by (repeat (first | exact List.mem_cons_self .. | apply List.mem_cons_of_mem))), hf (a, oa) (by (repeat (first | exact List.mem_cons_self .. | apply List.mem_cons_of_mem))), hg (a, oa) (by (repeat (first | exact List.mem_cons_self .. | apply List.mem_cons_of_mem)))⟩, ⟨hc (b, ob) (by (repeat (first | exact List.mem_cons_self .. | apply List.mem_cons_of_mem))), hd (b, ob) (by (repeat (first | exact List.mem_cons_self .. | apply List.mem_cons_of_mem))), he (b, ob) (by (repeat (first | exact List.mem_cons_self .. | apply List.mem_cons_of_mem))), hf (b, ob) (by (repeat (first | exact List.mem_cons_self .. | apply List.mem_cons_of_mem))), hg (b, ob) (by (repeat (first | exact List.mem_cons_self .. | apply List.mem_cons_of_mem)))⟩, ⟨hd (c, oc) (by (repeat (first | exact List.mem_cons_self .. | apply List.mem_cons_of_mem))), he (c, oc) (by (repeat (first | exact List.mem_cons_self .. | apply List.mem_cons_of_mem))), hf (c, oc) (by (repeat (first | exact List.mem_cons_self .. | apply List.mem_cons_of_mem))), hg (c, oc) (by (repeat (first | exact List.mem_cons_self .. | apply List.mem_cons_of_mem)))⟩, ⟨he (d, od) (by (repeat (first | exact List.mem_cons_self .. | apply List.mem_cons_of_mem))), hf (d, od) (by (repeat (first | exact List.mem_cons_self .. | apply List.mem_cons_of_mem))), hg (d, od) (by (repeat (first | exact List.mem_cons_self .. | apply List.mem_cons_of_mem)))⟩, ⟨hf (e, oe) (by (repeat (first | exact List.mem_cons_self .. | apply List.mem_cons_of_mem))), hg (e, oe) (by (repeat (first | exact List.mem_cons_self .. | apply List.mem_cons_of_mem)))⟩, hg (f, of) (by (repeat (first | exact List.mem_cons_self .. | apply List.mem_cons_of_mem)))⟩, hz⟩
theorem nd7E {a b c d e f g : Addr} {oa ob oc od oe of og : Obj} {rest : List (Addr × Obj)} {goal : Prop} (h : ND ((a, oa) :: (b, ob) :: (c, oc) :: (d, od) :: (e, oe) :: (f, of) :: (g, og) :: rest))
    (k : a ≠ b → a ≠ c → a ≠ d → a ≠ e → a ≠ f → a ≠ g → b ≠ c → b ≠ d → b ≠ e → b ≠ f → b ≠ g → c ≠ d → c ≠ e → c ≠ f → c ≠ g → d ≠ e → d ≠ f → d ≠ g → e ≠ f → e ≠ g → f ≠ g → OwnOff rest [a, b, c, d, e, f, g] → goal) : goal := by
  obtain ⟨⟨⟨h1, h2, h3, h4, h5, h6⟩, ⟨h7, h8, h9, h10, h11⟩, ⟨h12, h13, h14, h15⟩, ⟨h16, h17, h18⟩, ⟨h19, h20⟩, h21⟩, hoff⟩ := nd7 h
  exact k h1 h2 h3 h4 h5 h6 h7 h8 h9 h10 h11 h12 h13 h14 h15 h16 h17 h18 h19 h20 h21 hoff
/-- a fresh address -/
theorem ND.change {pre post : List (Addr × Obj)} {a : Addr} {o o' : Obj} (h : ND (pre ++ (a, o) :: post)) : ND (pre ++ (a, o') :: post) := by
  unfold ND at *; simpa using h
theorem ND.same {l l' : List (Addr × Obj)} (h : ND l) (e : l'.map (·.1) = l.map (·.1)) : ND l' := by
  unfold ND at *; rw [e]; exact h
def rn : Nat → Str
  | 0 => "active"
  | 1 => "inactive"
  | 2 => "nba"
  | _ => "late"
def QC.push (c : QC) (r : Nat) (v : Value) : QC := match r with
  | 0 => { c with va := c.va ++ [v], ka := c.ka + 1 }
  | 1 => { c with vi := c.vi ++ [v], ki := c.ki + 1 }
  | 2 => { c with vn := c.vn ++ [v], kn := c.kn + 1 }
  | _ => { c with vl := c.vl ++ [v], kl := c.kl + 1 }

theorem ND.mid {pre post old : List Addr} {q : Addr} (nd : old.Nodup) (hq : q ∉ old) (hs : (pre ++ post).Sublist old) : (pre ++ q :: post).Nodup :=
  (List.perm_middle.nodup_iff).mpr (List.nodup_cons.mpr ⟨fun h => hq (hs.subset h), hs.nodup nd⟩)
theorem allLt_not {q : Addr} : ∀ {l : List (Addr × Obj)}, AllLt q l → q ∉ l.map (·.1)
  | [], _ => by simp
  | p :: r, h => by
    simp only [List.map_cons, List.mem_cons, not_or]
    exact ⟨fun e => Nat.lt_irrefl q (by have := h.1; rw [← e] at this; exact this), allLt_not h.2⟩
theorem newsSub {h₀ h : Heap} {L : Addr} {n1 n2 : List (Addr × Obj)} (N : News h₀ L h n1) (s : ∀ p ∈ n2, p ∈ n1) : News h₀ L h n2 := fun p hp => N p (s p hp)
structure QS where
  now : Int
  head : Nat
  act : List Int
  ina : List Int
  nba : List Int
  late : List Int
def QS.refill (S : QS) : QS :=
  if 0 < S.ina.length then { S with head := 0, act := S.ina, ina := [] }
  else if 0 < S.nba.length then { S with head := 0, act := S.nba, nba := [] }
  else { S with head := 0, act := S.late, late := [] }
structure Is (c : QC) (S : QS) : Prop where
  now : c.now = S.now
  head : c.head = (S.head : Int)
  act : IntsAre c.va S.act
  ina : IntsAre c.vi S.ina
  nba : IntsAre c.vn S.nba
  late : IntsAre c.vl S.late
structure Stay (c c' : QC) : Prop where
  Qa : c'.Qa = c.Qa
  later : c'.later = c.later
  od : c'.od = c.od
def QS.small (S : QS) : Prop := S.act.length ≤ 1000 ∧ S.ina.length ≤ 1000 ∧ S.nba.length ≤ 1000 ∧ S.late.length ≤ 1000
local macro_rules | `(tactic| k_ne) => `(tactic| ((try dsimp only); first | assumption | (refine Ne.symm ?_; assumption) | (refine neN ?_; (try dsimp only); omega)))

theorem add (w : World) (c : QC) (rest : List (Addr × Obj)) (nd : ND (c.led w ++ rest)) (r : Nat) (hr : r < 4) (ev : Int) (te t : Tok)
   (hz : c.va.length ≤ 1000 ∧ c.vi.length ≤ 1000 ∧ c.vn.length ≤ 1000 ∧ c.vl.length ≤ 1000) :
   Ctr w 1 35 [.ref c.Qa, .str (rn r) t, .int ev te] (c.led w ++ rest) (fun v news' => v = .none ∧ news' = (c.push r (.int ev te)).led w ++ rest) := by
  obtain ⟨Qa, D, act, ina, nba, late, later, ts, now, tn, head, th, va, ka, vi, ki, vn, kn, vl, kl, od⟩ := c
  dsimp only [QC.led, List.cons_append, List.nil_append] at nd hz ⊢
  refine nd7E nd ?_
  intro h1 h2 h3 h4 h5 h6 h7 h8 h9 h10 h11 h12 h13 h14 h15 h16 h17 h18 h19 h20 h21 hoff
  obtain ⟨hz1, hz2, hz3, hz4⟩ := hz
  clear nd
  match r, hr with
  | 0, _ =>
    k_with_none
    w_top off
    intro dp un gd cn cs a ccd cl outer A₀ base h₀ L m s mean mg mb Q E B F X N T hk hd hu hret
    dsimp only [rn, QC.push] at *
    refine wpAny_call ?_
    k_dflt ktr_enter
    k_steps
    all_goals (refine' hret _ _ _ _ (by k_asm) (by k_asm) ?_)
    all_goals (refine ⟨rfl, ?_⟩; simp)
  | 1, _ =>
    k_with_none
    w_top off
    intro dp un gd cn cs a ccd cl outer A₀ base h₀ L m s mean mg mb Q E B F X N T hk hd hu hret
    dsimp only [rn, QC.push] at *
    refine wpAny_call ?_
    k_dflt ktr_enter
    k_steps
    all_goals (refine' hret _ _ _ _ (by k_asm) (by k_asm) ?_)
    all_goals (refine ⟨rfl, ?_⟩; simp)
  | 2, _ =>
    k_with_none
    w_top off
    intro dp un gd cn cs a ccd cl outer A₀ base h₀ L m s mean mg mb Q E B F X N T hk hd hu hret
    dsimp only [rn, QC.push] at *
    refine wpAny_call ?_
    k_dflt ktr_enter
    k_steps
    all_goals (refine' hret _ _ _ _ (by k_asm) (by k_asm) ?_)
    all_goals (refine ⟨rfl, ?_⟩; simp)
  | 3, _ =>
    k_with_none
    w_top off
    intro dp un gd cn cs a ccd cl outer A₀ base h₀ L m s mean mg mb Q E B F X N T hk hd hu hret
    dsimp only [rn, QC.push] at *
    refine wpAny_call ?_
    k_dflt ktr_enter
    k_steps
    all_goals (refine' hret _ _ _ _ (by k_asm) (by k_asm) ?_)
    all_goals (refine ⟨rfl, ?_⟩; simp)
end Mine
end

noncomputable section
set_option maxHeartbeats 4000000
namespace Mine
theorem fillQ1 : PySem.Challenge.rw_nn0294_01.Holds → hd.heap_39 = hd.heap_39 := by
  k_fill
  intro _; rfl
local macro_rules | `(tactic| k_ne) => `(tactic| ((try dsimp only); first | assumption | (refine Ne.symm ?_; assumption) | (refine neN ?_; (try dsimp only); omega)))

local macro_rules | `(tactic| lcg_sub) => `(tactic| (intro p hp; k_ownIn))
theorem allLt_nd {q : Addr} {l : List (Addr × Obj)} (_ : ND l) (h : AllLt q l) : q ∉ l.map (·.1) := allLt_not h
theorem ndr1 {Q D act ina nba late later q : Addr} {rest : List Addr} (nd : List.Nodup (Q :: D :: act :: ina :: nba :: late :: later :: rest)) (hq : q ∉ Q :: D :: act :: ina :: nba :: late :: later :: rest) : List.Nodup (Q :: D :: ina :: q :: nba :: late :: later :: rest) := by grind
theorem ndr2 {Q D act ina nba late later q : Addr} {rest : List Addr} (nd : List.Nodup (Q :: D :: act :: ina :: nba :: late :: later :: rest)) (hq : q ∉ Q :: D :: act :: ina :: nba :: late :: later :: rest) : List.Nodup (Q :: D :: nba :: ina :: q :: late :: later :: rest) := by grind
theorem ndr3 {Q D act ina nba late later q : Addr} {rest : List Addr} (nd : List.Nodup (Q :: D :: act :: ina :: nba :: late :: later :: rest)) (hq : q ∉ Q :: D :: act :: ina :: nba :: late :: later :: rest) : List.Nodup (Q :: D :: late :: ina :: nba :: q :: later :: rest) := by grind
theorem dec0 (n : Nat) : decide (0 < (n : Int)) = decide (0 < n) := by
  by_cases h : 0 < n
  · rw [decide_eq_true h, decide_eq_true (by omega)]
  · rw [decide_eq_false h, decide_eq_false (by omega)]
theorem rf1 {S : QS} (h : 0 < (S.ina.length : Int)) : S.refill = { S with head := 0, act := S.ina, ina := [] } := by
  unfold QS.refill; rw [if_pos (by omega)]
theorem rf2 {S : QS} (h : ¬ 0 < (S.ina.length : Int)) (h2 : 0 < (S.nba.length : Int)) : S.refill = { S with head := 0, act := S.nba, nba := [] } := by
  unfold QS.refill; rw [if_neg (by omega), if_pos (by omega)]
theorem rf3 {S : QS} (h : ¬ 0 < (S.ina.length : Int)) (h2 : ¬ 0 < (S.nba.length : Int)) : S.refill = { S with head := 0, act := S.late, late := [] } := by
  unfold QS.refill; rw [if_neg (by omega), if_neg (by omega)]
theorem refill (w : World) (c : QC) (rest : List (Addr × Obj)) (nd : ND (c.led w ++ rest)) {S : QS} (hS : Is c S) (hz : S.small) :
   Ctr w 1 49 [.ref c.Qa] (c.led w ++ rest) (fun v news' => ∃ c', news' = c'.led w ++ rest ∧ v = .bool (decide (0 < S.refill.act.length)) ∧ ND news' ∧ Stay c c' ∧ Is c' S.refill) := by
  obtain ⟨Qa, D, act, ina, nba, late, later, ts, now, tn, head, th, va, ka, vi, ki, vn, kn, vl, kl, od⟩ := c
  obtain ⟨snow, shead, A, I, Nb, Lt⟩ := S
  obtain ⟨hz1, hz2, hz3, hz4⟩ := hz
  obtain ⟨hnow, hhead, hva, hvi, hvn, hvl⟩ := hS
  dsimp only [QC.led, qd, List.cons_append, List.nil_append] at *
  refine nd7E nd ?_
  intro h1 h2 h3 h4 h5 h6 h7 h8 h9 h10 h11 h12 h13 h14 h15 h16 h17 h18 h19 h20 h21 hoff
  k_with_none
  w_top off
  intro dp un gd cn cs a ccd cl outer A₀ base h₀ L m s mean mg mb Q E B F X N T hk hd hu hret
  refine wpAny_call ?_
  k_dflt ktr_enter
  k_steps
  · refine' hret _ (QC.led w ⟨Qa, D, ina, _, nba, late, later, ts, now, tn, 0, _, vi, ki, [], 0, vn, kn, vl, kl, od⟩ ++ rest) _ _ (by k_asm) (newsSub (by k_asm) (by dsimp only [QC.led, qd, List.cons_append, List.nil_append]; lcg_sub)) ⟨_, rfl, ?_, ?_, ⟨rfl, rfl, rfl⟩, ?_⟩
    · rw [rf1 (by assumption)]; exact congrArg Value.bool (dec0 _)
    · exact ndr1 nd (allLt_nd nd (by simp only [AllLt]; assumption))
    · rw [rf1 (by assumption)]; exact ⟨by assumption, rfl, by assumption, by first | exact IntsAre.nil | assumption, by first | exact IntsAre.nil | assumption, by first | exact IntsAre.nil | assumption⟩
  · refine' hret _ (QC.led w ⟨Qa, D, nba, ina, _, late, later, ts, now, tn, 0, _, vn, kn, vi, ki, [], 0, vl, kl, od⟩ ++ rest) _ _ (by k_asm) (newsSub (by k_asm) (by dsimp only [QC.led, qd, List.cons_append, List.nil_append]; lcg_sub)) ⟨_, rfl, ?_, ?_, ⟨rfl, rfl, rfl⟩, ?_⟩
    · rw [rf2 (by assumption) (by assumption)]; exact congrArg Value.bool (dec0 _)
    · exact ndr2 nd (allLt_nd nd (by simp only [AllLt]; assumption))
    · rw [rf2 (by assumption) (by assumption)]; exact ⟨by assumption, rfl, by assumption, by first | exact IntsAre.nil | assumption, by first | exact IntsAre.nil | assumption, by first | exact IntsAre.nil | assumption⟩
  · refine' hret _ (QC.led w ⟨Qa, D, late, ina, nba, _, later, ts, now, tn, 0, _, vl, kl, vi, ki, vn, kn, [], 0, od⟩ ++ rest) _ _ (by k_asm) (newsSub (by k_asm) (by dsimp only [QC.led, qd, List.cons_append, List.nil_append]; lcg_sub)) ⟨_, rfl, ?_, ?_, ⟨rfl, rfl, rfl⟩, ?_⟩
    · rw [rf3 (by assumption) (by assumption)]; exact congrArg Value.bool (dec0 _)
    · exact ndr3 nd (allLt_nd nd (by simp only [AllLt]; assumption))
    · rw [rf3 (by assumption) (by assumption)]; exact ⟨by assumption, rfl, by assumption, by first | exact IntsAre.nil | assumption, by first | exact IntsAre.nil | assumption, by first | exact IntsAre.nil | assumption⟩
end Mine
end

noncomputable section
set_option maxHeartbeats 4000000
namespace Mine
theorem fillQ2 : PySem.Challenge.rw_nn0294_01.Holds → hd.heap_39 = hd.heap_39 := by
  k_fill
  intro _; rfl
local macro_rules | `(tactic| k_ne) => `(tactic| ((try dsimp only); first | assumption | (refine Ne.symm ?_; assumption) | (refine neN ?_; (try dsimp only); omega)))
local macro_rules | `(tactic| lcg_sub) => `(tactic| (intro p hp; k_ownIn))
def QS.take (S : QS) : QS := 
  if S.head < S.act.length then { S with head := S.head + 1 }
  else { S.refill with head := if 0 < S.refill.act.length then 1 else 0 }
def QS.taken (S : QS) : Option Int :=
  if S.head < S.act.length then some (S.act.getD S.head 0) else if 0 < S.refill.act.length then some (S.refill.act.getD 0 0) else none
theorem refill_head (S : QS) : S.refill.head = 0 := by unfold QS.refill; split; rfl; split <;> rfl
theorem refill_small {S : QS} (h : S.small) : S.refill.small := by
  obtain ⟨a, b, c, d⟩ := h
  unfold QS.refill
  split
  · exact ⟨b, Nat.zero_le _, c, d⟩
  · split
    · exact ⟨c, b, Nat.zero_le _, d⟩
    · exact ⟨d, b, c, Nat.zero_le _⟩
theorem refillE {w : World} {rest : List (Addr × Obj)} {Qa : Addr} {D : Addr} {act : Addr} {ina : Addr} {nba : Addr} {late : Addr} {later : Addr} {ts : Nat → Nat} {now : Int} {tn : Tok} {head : Int} {th : Tok} {va : List Value} {ka : Nat} {vi : List Value} {ki : Nat} {vn : List Value} {kn : Nat} {vl : List Value} {kl : Nat} {od : Obj} {S : QS}
    (C : Ctr w 1 49 [.ref Qa] ((⟨Qa, D, act, ina, nba, late, later, ts, now, tn, head, th, va, ka, vi, ki, vn, kn, vl, kl, od⟩ : QC).led w ++ rest) (fun v news' => ∃ c' : QC, news' = c'.led w ++ rest ∧ v = .bool (decide (0 < S.refill.act.length)) ∧ ND news' ∧ Stay ⟨Qa, D, act, ina, nba, late, later, ts, now, tn, head, th, va, ka, vi, ki, vn, kn, vl, kl, od⟩ c' ∧ Is c' S.refill))
    {dp un : Nat} {gd : Option (List Code)} {cn : Str} {cs : Scope} {a : Addr} {ccd : Value} {cl : List (Str × Addr)} {outer : List Env} {A₀ : Around} {base h₀ : Heap} {L : Addr} {m : Str → Option Value} {s : Shared}
    {mean : ExcName → Option Value} {mg mb : Str → Option Value} {Q E : Value → Shared → Prop}
    (B : Below A₀ base outer h₀) (F : Fr h₀ L s.heap m) (X : (hd.heap_39 w.params).In h₀) (N : News h₀ L s.heap ((⟨Qa, D, act, ina, nba, late, later, ts, now, tn, head, th, va, ka, vi, ki, vn, kn, vl, kl, od⟩ : QC).led w ++ rest)) (T : Top hd.view_39 (looseW hd.view_39 []) mean mg mb h₀) (hk : cs.kind = .function) (hdp : dp + 10 * 1 < recursionLimit) (hu : un + 1000 * 1 < cLine)
    (k : ∀ (D9 : Addr) (act9 : Addr) (ina9 : Addr) (nba9 : Addr) (late9 : Addr) (ts9 : Nat → Nat) (now9 : Int) (tn9 : Tok) (th9 : Tok) (va9 : List Value) (ka9 : Nat) (vi9 : List Value) (ki9 : Nat) (vn9 : List Value) (kn9 : Nat) (vl9 : List Value) (kl9 : Nat) h' tk', Fr h₀ L h' m → News h₀ L h' ((⟨Qa, D9, act9, ina9, nba9, late9, later, ts9, now9, tn9, 0, th9, va9, ka9, vi9, ki9, vn9, kn9, vl9, kl9, od⟩ : QC).led w ++ rest) → ND ((⟨Qa, D9, act9, ina9, nba9, late9, later, ts9, now9, tn9, 0, th9, va9, ka9, vi9, ki9, vn9, kn9, vl9, kl9, od⟩ : QC).led w ++ rest) → now9 = S.refill.now → IntsAre va9 S.refill.act → IntsAre vi9 S.refill.ina → IntsAre vn9 S.refill.nba → IntsAre vl9 S.refill.late → Q (.bool (decide (0 < S.refill.act.length))) { s with heap := h', toks := tk' }) :
    wpAny (model prg w) (ktrTop dp un gd cn cs L a ccd cl outer) (call (.ref 49) [.ref Qa]) Q E s := by
  refine Ctr.use C B F X N T hk hdp hu ?_
  rintro r n' h' tk' F' N' ⟨⟨Qa9, D9, act9, ina9, nba9, late9, later9, ts9, now9, tn9, head9, th9, va9, ka9, vi9, ki9, vn9, kn9, vl9, kl9, od9⟩, rfl, rfl, nd9, ⟨e1, e2, e3⟩, ⟨i1, i2, i3, i4, i5, i6⟩⟩
  dsimp only at e1 e2 e3 i1 i2 i3 i4 i5 i6
  rw [refill_head] at i2
  subst e1; subst e2; subst e3; subst i2
  exact k D9 act9 ina9 nba9 late9 ts9 now9 tn9 th9 va9 ka9 vi9 ki9 vn9 kn9 vl9 kl9 h' tk' F' N' nd9 i1 i3 i4 i5 i6
theorem take (w : World) (c : QC) (rest : List (Addr × Obj)) (nd : ND (c.led w ++ rest)) {S : QS} (hS : Is c S) (hz : S.small) (hh : S.head ≤ S.act.length) :
   Ctr w 2 56 [.ref c.Qa] (c.led w ++ rest) (fun v news' => ∃ c', news' = c'.led w ++ rest ∧ (match S.taken with | some e => ∃ t, v = .int e t | none => v = .none) ∧ ND news' ∧ Stay c c' ∧ Is c' S.take) := by
  have C := refill w c rest nd hS hz
  have hRh := refill_head S
  have hRz := (refill_small hz).1
  obtain ⟨Qa, D, act, ina, nba, late, later, ts, now, tn, head, th, va, ka, vi, ki, vn, kn, vl, kl, od⟩ := c
  obtain ⟨snow, shead, A, I, Nb, Lt⟩ := S
  obtain ⟨hz1, hz2, hz3, hz4⟩ := hz
  obtain ⟨hnow, hhead, hva, hvi, hvn, hvl⟩ := hS
  dsimp only [QC.led, qd, List.cons_append, List.nil_append] at C nd hnow hhead hva hvi hvn hvl hz1 hz2 hz3 hz4 hh
  refine nd7E nd ?_
  intro h1 h2 h3 h4 h5 h6 h7 h8 h9 h10 h11 h12 h13 h14 h15 h16 h17 h18 h19 h20 h21 hoff
  k_with_none
  w_top off
  intro dp un gd cn cs a ccd cl outer A₀ base h₀ L m s mean mg mb Q E B F X N T hk hd hu hret
  unfold QS.taken QS.take at hret
  dsimp only [QC.led, qd, List.cons_append, List.nil_append] at N hret
  refine wpAny_call ?_
  k_dflt ktr_enter
  k_with "call ref" =>
    refine' refillE C ?kB ?kF ?kX ?kN ?kT ?kk ?kd ?ku ?_
    case kB => k_asm
    case kF => k_asm
    case kX => k_asm
    case kN => k_asm
    case kT => k_asm
    case kk => rfl
    case kd => ktr_room
    case ku => ktr_units
    intro D9 act9 ina9 nba9 late9 ts9 now9 tn9 th9 va9 ka9 vi9 ki9 vn9 kn9 vl9 kl9 h9 tk9 F9 N9 nd9 hnow9 hva9 hvi9 hvn9 hvl9
    dsimp only [QC.led, qd, List.cons_append, List.nil_append] at N9 nd9
    refine nd7E nd9 ?_
    intro h1' h2' h3' h4' h5' h6' h7' h8' h9' h10' h11' h12' h13' h14' h15' h16' h17' h18' h19' h20' h21' hoff'
    clear C
  k_steps
  · refine' hret _ (QC.led w ⟨Qa, D9, act9, ina9, nba9, late9, later, ts9, now9, tn9, 1, _, va9, ka9, vi9, ki9, vn9, kn9, vl9, kl9, od⟩ ++ rest) _ _ (by k_asm) (newsSub (by k_asm) (by dsimp only [QC.led, qd, List.cons_append, List.nil_append]; lcg_sub)) ⟨_, rfl, ?_, ND.same nd9 rfl, ⟨rfl, rfl, rfl⟩, ?_⟩
    · rw [if_neg (by omega), if_pos (by assumption)]; exact ⟨_, rfl⟩
    · rw [if_neg (by omega), if_pos (by assumption)]; exact ⟨hnow9, rfl, hva9, hvi9, hvn9, hvl9⟩
  · refine' hret _ (QC.led w ⟨Qa, D9, act9, ina9, nba9, late9, later, ts9, now9, tn9, 0, _, va9, ka9, vi9, ki9, vn9, kn9, vl9, kl9, od⟩ ++ rest) _ _ (by k_asm) (newsSub (by k_asm) (by dsimp only [QC.led, qd, List.cons_append, List.nil_append]; lcg_sub)) ⟨_, rfl, ?_, ND.same nd9 rfl, ⟨rfl, rfl, rfl⟩, ?_⟩
    · rw [if_neg (by omega), if_neg (by assumption)]
    · rw [if_neg (by omega), if_neg (by assumption)]; exact ⟨hnow9, rfl, hva9, hvi9, hvn9, hvl9⟩
  · refine' hret _ (QC.led w ⟨Qa, D, act, ina, nba, late, later, ts, now, tn, head + 1, _, va, ka, vi, ki, vn, kn, vl, kl, od⟩ ++ rest) _ _ (by k_asm) (newsSub (by k_asm) (by dsimp only [QC.led, qd, List.cons_append, List.nil_append]; lcg_sub)) ⟨_, rfl, ?_, ND.same nd rfl, ⟨rfl, rfl, rfl⟩, ?_⟩
    · rw [if_pos (by omega)]; rw [hhead]; exact ⟨_, rfl⟩
    · rw [if_pos (by omega)]; exact ⟨hnow, by simp [hhead], hva, hvi, hvn, hvl⟩
end Mine
end

noncomputable section
set_option maxHeartbeats 4000000
namespace Mine
section
variable {prog : Program} {w : World} {A : Around} {E : Value → Shared → Prop} {s : Shared} {h₀ : Heap} {L d : Addr} {m : Str → Option Value} {news : List (Addr × Obj)} {o : Obj} {kvs : List (Int × Value)} {Q : Value → Shared → Prop}
def numK (kvs : List (Int × Value)) (i : Nat) : Int := ((kvs[i]?).map (·.1)).getD 0
theorem numK_mem {i : Nat} (h : i < kvs.length) : numK kvs i ∈ kvs.map (·.1) := by
  unfold numK; rw [List.getElem?_eq_getElem h]
  exact List.mem_map.mpr ⟨kvs[i], List.getElem_mem h, rfl⟩
theorem min_dict (hh : A.handled = none) (F : Fr h₀ L s.heap m) (N : News h₀ L s.heap news) (hp : (d, o) ∈ news) (hd : o.IsDictOf (PySem.intKind prog w) kvs) (lo : (d == sysModules) = false) (hne : 0 < kvs.length)
    (h : ∀ h' M (t : Tok) tk, Fr h₀ L h' m → News h₀ L h' news → M ∈ kvs.map (·.1) → (∀ a ∈ kvs.map (·.1), M ≤ a) → Q (.int M t) { s with heap := h', toks := tk }) :
    wpAny (model prog w) A (call (.builtin "min") [.ref d]) Q E s := by
  obtain ⟨ep, ha⟩ := KdkAt.of hd
  refine call_min_walk ?_
  obtain ⟨oI, St, hit, W, st⟩ := (kdl_dict (prog := prog) (w := w) (knd := PySem.intKind prog w) (kvs := kvs) (ep := ep) lo).iter A.in1 s hh (ha.dictAt (N _ hp).1)
  have hP : ∀ (i : Nat) (v : Value), (∃ k x, kvs[i]? = some (k, x) ∧ (PySem.intKind prog w).is k v = true) → ∃ t, v = .int (numK kvs i) t := by
    rintro i v ⟨k, x, hx, hk⟩
    obtain ⟨t, rfl⟩ := Value.isInt_shape hk
    exact ⟨t, by simp [numK, hx]⟩
  refine hit _ _ ⟨s.heap.objs.size, _, _, _, _, _, _, rfl, W, st, ?_, hne, CmpOf.ints_lt (numK kvs) hP, fun v h' tk hv hk => ?_⟩
  · intro b hb
    show b < (s.heap.push oI).objs.size
    rw [size_push']
    rcases List.mem_cons.mp hb with rfl | hb
    · exact Nat.lt_succ_self _
    · rw [List.mem_singleton.mp hb]; exact Nat.lt_succ_of_lt (Heap.lt_size (N _ hp).1)
  · have hk2 : ∀ b o, s.heap.get? b = some o → h'.get? b = some o := fun b o e =>
      hk b o (fun hI => absurd (Heap.lt_size e) (by rw [List.mem_singleton.mp hI]; exact Nat.lt_irrefl _)) (Heap.get?_push_of_some _ e)
    obtain ⟨t, rfl⟩ := hP _ _ hv
    obtain ⟨h1, h2⟩ := argBest_lt (numK kvs) (kvs.length - 1)
    refine h h' _ t tk (F.keeps hk2) (fun p hpm => ⟨hk2 _ _ (N p hpm).1, (N p hpm).2⟩) (numK_mem (by omega)) fun a ham => ?_
    obtain ⟨q, hq, rfl⟩ := List.mem_map.mp ham
    obtain ⟨j, hj, rfl⟩ := List.mem_iff_getElem.mp hq
    have := h2 j (by omega)
    have e : numK kvs j = kvs[j].1 := by simp [numK, hj]
    rw [e] at this; exact this

theorem ints_of : ∀ {vs : List Value} {ns : List Int}, vs.length = ns.length → (∀ (j : Nat) (v : Value), vs[j]? = some v → ∃ k t, v = .int k t ∧ ns[j]? = some k) → IntsAre vs ns
  | [], [], _, _ => IntsAre.nil
  | [], _ :: _, h, _ => by simp at h
  | _ :: _, [], h, _ => by simp at h
  | v :: vs, n :: ns, h, hv => by
    obtain ⟨k, t, rfl, hk⟩ := hv 0 v rfl
    have e : n = k := by simpa using hk
    subst e
    exact IntsAre.cons _ _ (ints_of (by simpa using h) fun j v hj => by
      have := hv (j + 1) v (by simpa using hj)
      simpa using this)
theorem sorted_dict (hh : A.handled = none) (F : Fr h₀ L s.heap m) (N : News h₀ L s.heap news) (hp : (d, o) ∈ news) (hd : o.IsDictOf (PySem.intKind prog w) kvs) (lo : (d == sysModules) = false) (hz : kvs.length < 64)
    (h : ∀ D h' vs ns c tk, Fr h₀ L h' m → News h₀ L h' ((D, W.listOf vs.toArray c) :: news) → (∀ q ∈ news, q.1 < D) → IntsAre vs ns → ns.Perm (kvs.map (·.1)) → Q (.ref D) { s with heap := h', toks := tk }) :
    wpAny (model prog w) A (call (.builtin "sorted") [.ref d]) Q E s := by
  obtain ⟨ep, ha⟩ := KdkAt.of hd
  refine kdu_sorted (kdl_dict (prog := prog) (w := w) (knd := PySem.intKind prog w) (kvs := kvs) (ep := ep) lo) hh F N (ha.dictAt (N _ hp).1) (kdl_size (by omega)) fun D h' tk vs F' N' hlt hl hv => ?_
  have hi : IntsAre vs (kvs.map (·.1)) := ints_of (by rw [hl, List.length_map]) fun j v hj => by
    obtain ⟨k, x, hx, hk⟩ := hv j v hj
    obtain ⟨t, rfl⟩ := Value.isInt_shape hk
    exact ⟨k, t, rfl, by rw [List.getElem?_map, hx]; rfl⟩
  have hD := N' (D, W.listOf vs.toArray 0) (List.mem_cons_self ..)
  refine PySem.wpAny_call_entry slot_list_sort ⟨_, hD.1, rfl⟩ entry_list_sort (list_sort_tree hD.1 hi (by rw [hl]; exact hz) fun out ns' a1 a2 a3 => ⟨_, rfl, ?_⟩) (args_list_sort _)
  obtain ⟨e, he⟩ := sortedHeap_at (out := out) hD.1
  have old : ∀ b o, b ≠ D → h'.get? b = some o → (sortedHeap h' D vs out).get? b = some o := fun b o hb e => (sortedHeap_old hb (Heap.lt_size e)).trans e
  refine h D _ out.toList ns' e tk ⟨F'.ns.at' fun o e => old _ _ (Ne.symm hD.2.1) e, fun b o e => old b o (fun hb => by rw [hb, hD.2.2] at e; cases e) (F'.keep b o e), F'.above⟩ (fun p hpm => ?_) hlt a1 a2
  rcases List.mem_cons.mp hpm with rfl | hpm
  · exact ⟨he, hD.2⟩
  · have := N' p (List.mem_cons_of_mem _ hpm)
    exact ⟨old _ _ (Nat.ne_of_lt (hlt p hpm)) this.1, this.2⟩
end
end Mine
end

noncomputable section
set_option maxHeartbeats 4000000
namespace Mine
theorem fillQ3 : PySem.Challenge.rw_nn0294_01.Holds → hd.heap_39 = hd.heap_39 := by
  k_fill
  intro _; rfl
local macro_rules | `(tactic| k_ne) => `(tactic| ((try dsimp only); first | assumption | (refine Ne.symm ?_; assumption) | (refine neN ?_; (try dsimp only); omega)))
local macro_rules | `(tactic| lcg_sub) => `(tactic| (intro p hp; k_ownIn))
def NextIs (ts : List Int) (M : Int) : Prop := (ts = [] ∧ M = -1) ∨ (M ∈ ts ∧ ∀ a ∈ ts, M ≤ a)
theorem next_time (w : World) (c : QC) (rest : List (Addr × Obj)) {kvs : List (Int × Value)} (hod : c.od.IsDictOf (PySem.intKind prg w) kvs) (lo : (c.later == sysModules) = false) (hz : kvs.length ≤ 60) :
   Ctr w 1 63 [.ref c.Qa] (c.led w ++ rest) (fun v news' => news' = c.led w ++ rest ∧ ∃ M t, v = .int M t ∧ NextIs (kvs.map (·.1)) M) := by
  obtain ⟨Qa, D, act, ina, nba, late, later, ts, now, tn, head, th, va, ka, vi, ki, vn, kn, vl, kl, od⟩ := c
  k_with_none
  w_top off
  intro dp un gd cn cs a ccd cl outer A₀ base h₀ L m s mean mg mb Q E B F X N T hk hd hu hret
  dsimp only [QC.led, qd, List.cons_append, List.nil_append] at *
  refine wpAny_call ?_
  k_dflt ktr_enter
  k_with "call builtin:len" =>
    with_reducible show wpAny _ _ (call (Value.builtin "len") [Value.ref later]) _ _ _
    k_dflt (refine kda_len (knd := PySem.intKind _ _) (by k_asm) (by k_mem) hod lo (by omega) ?_)
  k_with "call builtin:min" =>
    with_reducible show wpAny _ _ (call (Value.builtin "min") [Value.ref later]) _ _ _
    k_dflt (refine min_dict (by rfl) (by k_asm) (by k_asm) (by k_mem) hod lo (by omega) ?_)
    intro h9 M9 t9 tk9 F9 N9 hM hM2
  k_steps
  · refine' hret _ _ _ _ (by k_asm) (by k_asm) ⟨rfl, _, _, rfl, .inl ⟨?_, rfl⟩⟩
    have : kvs.length = 0 := by omega
    rw [List.length_eq_zero_iff.mp this]; rfl
  · exact hret _ _ _ _ (by k_asm) (by k_asm) ⟨rfl, _, _, rfl, .inr ⟨hM, hM2⟩⟩
end Mine
end

noncomputable section
set_option maxHeartbeats 4000000
namespace Mine
/-- the end of a turn of a loop over I -/
def TEnd (h₀ : Heap) (L : Addr) (I : Addr) (oI : Obj) (J : (Str → Option Value) → List (Addr × Obj) → Prop) (s₁ s₂ : Shared) : Prop :=
  ∃ h' tk m' news', s₂ = { s₁ with heap := h', toks := tk } ∧ Fr h₀ L h' m' ∧ News h₀ L h' ((I, oI) :: news') ∧ (∀ p ∈ news', p.1 ≠ I) ∧ J m' news'
def TPost (h₀ : Heap) (L : Addr) (I : Addr) (oI : Obj) (J : (Str → Option Value) → List (Addr × Obj) → Prop) (Q : Flow → Shared → Prop) (s₁ : Shared) (f : Flow) (s₂ : Shared) : Prop :=
  match f with
  | .ret v => Q (.ret v) s₂
  | .brk => Q .next s₂
  | _ => TEnd h₀ L I oI J s₁ s₂
def TPostU (h₀ : Heap) (L : Addr) (I : Addr) (oI : Obj) (J : (Str → Option Value) → List (Addr × Obj) → Prop) (s₁ : Shared) (f : Flow) (s₂ : Shared) : Prop :=
  f = .next ∧ TEnd h₀ L I oI J s₁ s₂
theorem TEnd.intro {h₀ : Heap} {L I : Addr} {oI : Obj} {J : (Str → Option Value) → List (Addr × Obj) → Prop} {s₁ : Shared} {h' : Heap} {tk : Nat} {m' : Str → Option Value} {all news' : List (Addr × Obj)}
    (F : Fr h₀ L h' m') (N : News h₀ L h' all) (hs : ∀ p ∈ (I, oI) :: news', p ∈ all) (off : ∀ p ∈ news', p.1 ≠ I) (hj : J m' news') : TEnd h₀ L I oI J s₁ { s₁ with heap := h', toks := tk } :=
  ⟨h', tk, m', news', rfl, F, fun p hp => N p (hs p hp), off, hj⟩
section
variable {prog : Program} {w : World} {A : Around} {E : Value → Shared → Prop} {s : Shared} {env : Env} {h₀ : Heap} {x : Str} {target : Expr} {body : List Stmt} {Q : Flow → Shared → Prop}
theorem own_in {L I l : Addr} {own news : List (Addr × Obj)} {h : Heap} {oI ol : Obj} (hsub : ∀ p ∈ own, p.1 ∈ [I, l]) (hat : ∀ p ∈ own, h.get? p.1 = some p.2) (hI : h.get? I = some oI) (hl : h.get? l = some ol) (hm : (l, ol) ∈ news) :
    ∀ p ∈ own, p ∈ (I, oI) :: news := by
  intro p hp
  have := hat p hp
  rcases List.mem_cons.mp (hsub p hp) with e | e
  · rw [e, hI] at this
    obtain ⟨a, b⟩ := p
    dsimp only at e this; subst e; cases this; exact List.mem_cons_self ..
  · have e := List.mem_singleton.mp e
    rw [e, hl] at this
    obtain ⟨a, b⟩ := p
    dsimp only at e this; subst e; cases this; exact List.mem_cons_of_mem _ hm

theorem iterV {l : Addr} {vs : List Value} {k : Nat} {m : Str → Option Value} {news : List (Addr × Obj)} (J : Nat → (Str → Option Value) → List (Addr × Obj) → Prop)
    (hh : A.handled = none) (F : Fr h₀ env.locals s.heap m) (N : News h₀ env.locals s.heap news) (hj : J 0 m news)
    (hkeep : ∀ i m' news', J i m' news' → (l, W.listOf vs.toArray k) ∈ news')
    (turn : ∀ i v m₁ news₁ h tk I oI, vs[i]? = some v → J i m₁ news₁ → (∀ p ∈ news₁, p.1 ≠ I) → Fr h₀ env.locals h (fun y => if y = x then some v else m₁ y) → News h₀ env.locals h ((I, oI) :: news₁) →
      wpAny (model prog w) A (execs body env) (TPost h₀ env.locals I oI (J (i + 1)) Q { s with heap := h, toks := tk }) E { s with heap := h, toks := tk })
    (done : ∀ m₁ news₁ h tk, J vs.length m₁ news₁ → Fr h₀ env.locals h m₁ → News h₀ env.locals h news₁ → Q .next { s with heap := h, toks := tk }) :
    wpAny (model prog w) A (pyIter (.ref l)) (fun it s₂ => LoopAtV prog w A h₀ env x body Q E it s₂) E s := by
  have hm := hkeep _ _ _ hj
  have hls : s.heap.IsList l vs.toArray := ⟨_, (N _ hm).1, rfl, k, rfl⟩
  have hlt : l < s.heap.objs.size := Heap.lt_size (N _ hm).1
  have hne : l ≠ s.heap.objs.size := Nat.ne_of_lt hlt
  refine wpAny_pyIter_list hls ?_
  have W := Walks.list (prog := prog) (w := w) hh s.heap.objs.size l hne vs.toArray
  refine ⟨_, _, _, _, _, _, m, news, J, rfl, W, ?_, ?_, ?_, ⟨⟨_, Heap.get?_push_size _ rfl, rfl, rfl⟩, hls.at fun o e => Heap.get?_push_of_some _ e⟩, F.push _, (fun p hp => ⟨Heap.get?_push_of_some _ (N p hp).1, (N p hp).2⟩), hj, ?_, ?_⟩
  · intro hm'
    rcases List.mem_cons.mp hm' with e | hm'
    · exact absurd F.ns.lt (e ▸ Nat.lt_irrefl _)
    · exact (N _ hm).2.1 (List.mem_singleton.mp hm').symm
  · intro b hb
    rw [List.mem_singleton.mp hb]
    exact next_is_new F
  · intro p hp hI
    exact absurd (Heap.lt_size (N p hp).1) ((List.mem_singleton.mp hI) ▸ Nat.lt_irrefl _)
  · rintro i v m₁ news₁ s₁ own ⟨hh', tk', rfl⟩ hin hP hJ hoff hown hat hin2 hst F₁ N₁
    have hin' : i < vs.length := by simpa using hin
    obtain ⟨oI, hI, _⟩ := hst.1
    have hm₁ := hkeep _ _ _ hJ
    have N₁' : News h₀ env.locals hh' news₁ := fun p hp => N₁ p (List.mem_append_right _ hp)
    have hIown : (s.heap.objs.size, oI) ∈ own := hin2 _ (List.mem_cons_self ..) (next_is_new F) oI hI
    refine wpAny_mono (turn i v m₁ news₁ hh' tk' s.heap.objs.size oI (by simpa using hP) hJ (fun p hp => fun e => hoff p hp (List.mem_singleton.mpr e)) F₁ (fun p hp => ?_)) (fun f s₂ p => ?_) fun _ _ e => e
    · rcases List.mem_cons.mp hp with rfl | hp
      · exact N₁ _ (List.mem_append_left _ hIown)
      · exact N₁' p hp
    · have fin : TEnd h₀ env.locals s.heap.objs.size oI (J (i + 1)) { s with heap := hh', toks := tk' } s₂ → LoopStepU h₀ env.locals [s.heap.objs.size] own (J (i + 1)) { s with heap := hh', toks := tk' } .next s₂ := by
        rintro ⟨h', tk, m', news', e, F', N', hn, hm2⟩
        refine ⟨rfl, h', tk, m', news', e, F', fun p hp => ?_, fun p hp hq => hn p hp (List.mem_singleton.mp hq), hm2⟩
        rcases List.mem_append.mp hp with hp | hp
        · exact N' p (own_in (L := env.locals) hown hat hI (N₁' _ hm₁).1 (hkeep _ _ _ hm2) p hp)
        · exact N' p (List.mem_cons_of_mem _ hp)
      cases f with
      | ret v => exact .ret p
      | brk => exact .brk p
      | next => exact .next (fin p)
      | cont => exact .cont (fin p)
  · rintro h' tk m' news' F' N' _ hJ
    exact done m' news' h' tk (by simpa using hJ) F' N'

theorem iterT {l : Addr} {vs : List Value} {k : Nat} {m : Str → Option Value} {news : List (Addr × Obj)} (J : Nat → (Str → Option Value) → List (Addr × Obj) → Prop)
    (hh : A.handled = none) (F : Fr h₀ env.locals s.heap m) (N : News h₀ env.locals s.heap news) (hj : J 0 m news)
    (hkeep : ∀ i m' news', J i m' news' → (l, W.listOf vs.toArray k) ∈ news')
    (turn : ∀ i v m₁ news₁ (s₁ : Shared) I oI, vs[i]? = some v → J i m₁ news₁ → (∀ p ∈ news₁, p.1 ≠ I) → Fr h₀ env.locals s₁.heap m₁ → News h₀ env.locals s₁.heap ((I, oI) :: news₁) →
      wpAny (model prog w) A (assign target env v) (fun _ s₃ => wpAny (model prog w) A (execs body env) (TPostU h₀ env.locals I oI (J (i + 1)) s₁) E s₃) E s₁)
    (done : ∀ m₁ news₁ h tk, J vs.length m₁ news₁ → Fr h₀ env.locals h m₁ → News h₀ env.locals h news₁ → Q .next { s with heap := h, toks := tk }) :
    wpAny (model prog w) A (pyIter (.ref l)) (fun it s₂ => LoopAtT prog w A h₀ env target body Q E it s₂) E s := by
  have hm := hkeep _ _ _ hj
  have hls : s.heap.IsList l vs.toArray := ⟨_, (N _ hm).1, rfl, k, rfl⟩
  have hlt : l < s.heap.objs.size := Heap.lt_size (N _ hm).1
  have hne : l ≠ s.heap.objs.size := Nat.ne_of_lt hlt
  refine wpAny_pyIter_list hls ?_
  have W := Walks.list (prog := prog) (w := w) hh s.heap.objs.size l hne vs.toArray
  refine ⟨_, _, _, _, _, _, m, news, J, rfl, W, ?_, ?_, ?_, ⟨⟨_, Heap.get?_push_size _ rfl, rfl, rfl⟩, hls.at fun o e => Heap.get?_push_of_some _ e⟩, F.push _, (fun p hp => ⟨Heap.get?_push_of_some _ (N p hp).1, (N p hp).2⟩), (fun i s' v Q' st hQ' => letGo_listiter st.1 hQ'), hj, ?_, ?_⟩
  · intro hm'
    rcases List.mem_cons.mp hm' with e | hm'
    · exact absurd F.ns.lt (e ▸ Nat.lt_irrefl _)
    · exact (N _ hm).2.1 (List.mem_singleton.mp hm').symm
  · intro b hb
    rw [List.mem_singleton.mp hb]
    exact next_is_new F
  · intro p hp hI
    exact absurd (Heap.lt_size (N p hp).1) ((List.mem_singleton.mp hI) ▸ Nat.lt_irrefl _)
  · rintro i v m₁ news₁ s₁ own hin hP hJ hoff hown hat hin2 hst F₁ N₁
    have hin' : i < vs.length := by simpa using hin
    obtain ⟨oI, hI, _⟩ := hst.1
    have hm₁ := hkeep _ _ _ hJ
    have N₁' : News h₀ env.locals s₁.heap news₁ := fun p hp => N₁ p (List.mem_append_right _ hp)
    have hIown : (s.heap.objs.size, oI) ∈ own := hin2 _ (List.mem_cons_self ..) (next_is_new F) oI hI
    refine wpAny_mono (turn i v m₁ news₁ s₁ s.heap.objs.size oI (by simpa using hP) hJ (fun p hp => fun e => hoff p hp (List.mem_singleton.mpr e)) F₁ (fun p hp => ?_)) (fun _ s₃ h₃ => wpAny_mono h₃ (fun f s₂ p => ?_) fun _ _ e => e) fun _ _ e => e
    · rcases List.mem_cons.mp hp with rfl | hp
      · exact N₁ _ (List.mem_append_left _ hIown)
      · exact N₁' p hp
    · obtain ⟨rfl, h', tk, m', news', e, F', N', hn, hm2⟩ := p
      refine ⟨rfl, h', tk, m', news', e, F', fun p hp => ?_, fun p hp hq => hn p hp (List.mem_singleton.mp hq), hm2⟩
      rcases List.mem_append.mp hp with hp | hp
      · exact N' p (own_in (L := env.locals) hown hat hI (N₁' _ hm₁).1 (hkeep _ _ _ hm2) p hp)
      · exact N' p (List.mem_cons_of_mem _ hp)
  · rintro h' tk m' news' F' N' _ hJ
    exact done m' news' h' tk (by simpa using hJ) F' N'

/-- the loop's own name alone is stored -/
theorem iterV1 {l : Addr} {vs : List Value} {k : Nat} {m : Str → Option Value} {news : List (Addr × Obj)} (J : Nat → List (Addr × Obj) → Prop)
    (hh : A.handled = none) (F : Fr h₀ env.locals s.heap m) (N : News h₀ env.locals s.heap news) (hj : J 0 news)
    (hkeep : ∀ i news', J i news' → (l, W.listOf vs.toArray k) ∈ news')
    (turn : ∀ i v news₁ h tk I oI, vs[i]? = some v → J i news₁ → (∀ p ∈ news₁, p.1 ≠ I) → Fr h₀ env.locals h (fun y => if y = x then some v else m y) → News h₀ env.locals h ((I, oI) :: news₁) →
      wpAny (model prog w) A (execs body env) (TPost h₀ env.locals I oI (fun m' n' => (∀ z, z ≠ x → m' z = m z) ∧ J (i + 1) n') Q { s with heap := h, toks := tk }) E { s with heap := h, toks := tk })
    (done : ∀ (u : Str → Option Value) news₁ h tk, J vs.length news₁ → Fr h₀ env.locals h (fun y => if y = x then u y else m y) → News h₀ env.locals h news₁ → Q .next { s with heap := h, toks := tk }) :
    wpAny (model prog w) A (pyIter (.ref l)) (fun it s₂ => LoopAtV prog w A h₀ env x body Q E it s₂) E s := by
  refine iterV (fun i m' n' => (∀ z, z ≠ x → m' z = m z) ∧ J i n') hh F N ⟨fun _ _ => rfl, hj⟩ (fun i m' n' h => hkeep i n' h.2) ?_ ?_
  · rintro i v m₁ news₁ h tk I oI hv ⟨hm, hJ⟩ off F₁ N₁
    have e : (fun y => if y = x then some v else m₁ y) = fun y => if y = x then some v else m y := by
      funext y
      by_cases h1 : y = x
      · simp [h1]
      · simp only [if_neg h1]; exact hm y h1
    rw [e] at F₁
    exact turn i v news₁ h tk I oI hv hJ off F₁ N₁
  · rintro m₁ news₁ h tk ⟨hm, hJ⟩ F₁ N₁
    refine done m₁ news₁ h tk hJ ?_ N₁
    have e : (fun y => if y = x then m₁ y else m y) = m₁ := by
      funext y
      by_cases h1 : y = x
      · simp [h1]
      · simp only [if_neg h1]; exact (hm y h1).symm
    rw [e]; exact F₁
/-- the loop's own name and one more, whose value J tells -/
theorem iterV2 {l : Addr} {vs : List Value} {k : Nat} {m : Str → Option Value} {news : List (Addr × Obj)} {y0 : Str} {v0 : Value} (J : Nat → Value → List (Addr × Obj) → Prop)
    (hh : A.handled = none) (F : Fr h₀ env.locals s.heap m) (N : News h₀ env.locals s.heap news) (hy : m y0 = some v0) (hyx : y0 ≠ x) (hj : J 0 v0 news)
    (hkeep : ∀ i c news', J i c news' → (l, W.listOf vs.toArray k) ∈ news')
    (turn : ∀ i v c news₁ h tk I oI, vs[i]? = some v → J i c news₁ → (∀ p ∈ news₁, p.1 ≠ I) → Fr h₀ env.locals h (fun y => if y = x then some v else if y = y0 then some c else m y) → News h₀ env.locals h ((I, oI) :: news₁) →
      wpAny (model prog w) A (execs body env) (TPost h₀ env.locals I oI (fun m' n' => (∀ z, z ≠ x → z ≠ y0 → m' z = m z) ∧ ∃ c', m' y0 = some c' ∧ J (i + 1) c' n') Q { s with heap := h, toks := tk }) E { s with heap := h, toks := tk })
    (done : ∀ (u : Str → Option Value) c news₁ h tk, J vs.length c news₁ → Fr h₀ env.locals h (fun y => if y = x then u y else if y = y0 then some c else m y) → News h₀ env.locals h news₁ → Q .next { s with heap := h, toks := tk }) :
    wpAny (model prog w) A (pyIter (.ref l)) (fun it s₂ => LoopAtV prog w A h₀ env x body Q E it s₂) E s := by
  refine iterV (fun i m' n' => (∀ z, z ≠ x → z ≠ y0 → m' z = m z) ∧ ∃ c', m' y0 = some c' ∧ J i c' n') hh F N ⟨fun _ _ _ => rfl, v0, hy, hj⟩ (fun i m' n' h => let ⟨_, c, _, hc⟩ := h; hkeep i c n' hc) ?_ ?_
  · rintro i v m₁ news₁ h tk I oI hv ⟨hm, c, hc, hJ⟩ off F₁ N₁
    have e : (fun y => if y = x then some v else m₁ y) = fun y => if y = x then some v else if y = y0 then some c else m y := by
      funext y
      by_cases h1 : y = x
      · simp [h1]
      · simp only [if_neg h1]
        by_cases h2 : y = y0
        · subst h2; simp [hc]
        · simp only [if_neg h2]; exact hm y h1 h2
    rw [e] at F₁
    exact turn i v c news₁ h tk I oI hv hJ off F₁ N₁
  · rintro m₁ news₁ h tk ⟨hm, c, hc, hJ⟩ F₁ N₁
    refine done m₁ c news₁ h tk hJ ?_ N₁
    have e : (fun y => if y = x then m₁ y else if y = y0 then some c else m y) = m₁ := by
      funext y
      by_cases h1 : y = x
      · simp [h1]
      · simp only [if_neg h1]
        by_cases h2 : y = y0
        · subst h2; simp [hc]
        · simp only [if_neg h2]; exact (hm y h1 h2).symm
    rw [e]; exact F₁
theorem iterT2 {l : Addr} {vs : List Value} {k : Nat} {m : Str → Option Value} {news : List (Addr × Obj)} (x1 x2 : Str) (J : Nat → List (Addr × Obj) → Prop)
    (hh : A.handled = none) (F : Fr h₀ env.locals s.heap m) (N : News h₀ env.locals s.heap news) (hj : J 0 news)
    (hkeep : ∀ i news', J i news' → (l, W.listOf vs.toArray k) ∈ news')
    (turn : ∀ i v (u : Str → Option Value) news₁ (s₁ : Shared) I oI, vs[i]? = some v → J i news₁ → (∀ p ∈ news₁, p.1 ≠ I) → Fr h₀ env.locals s₁.heap (fun y => if y = x1 then u y else if y = x2 then u y else m y) → News h₀ env.locals s₁.heap ((I, oI) :: news₁) →
      wpAny (model prog w) A (assign target env v) (fun _ s₃ => wpAny (model prog w) A (execs body env) (TPostU h₀ env.locals I oI (fun m' n' => (∀ z, z ≠ x1 → z ≠ x2 → m' z = m z) ∧ J (i + 1) n') s₁) E s₃) E s₁)
    (done : ∀ (u : Str → Option Value) news₁ h tk, J vs.length news₁ → Fr h₀ env.locals h (fun y => if y = x1 then u y else if y = x2 then u y else m y) → News h₀ env.locals h news₁ → Q .next { s with heap := h, toks := tk }) :
    wpAny (model prog w) A (pyIter (.ref l)) (fun it s₂ => LoopAtT prog w A h₀ env target body Q E it s₂) E s := by
  have conv : ∀ m₁ : Str → Option Value, (∀ z, z ≠ x1 → z ≠ x2 → m₁ z = m z) → (fun y => if y = x1 then m₁ y else if y = x2 then m₁ y else m y) = m₁ := by
    intro m₁ hm
    funext y
    by_cases h1 : y = x1
    · simp [h1]
    · simp only [if_neg h1]
      by_cases h2 : y = x2
      · simp [h2]
      · simp only [if_neg h2]; exact (hm y h1 h2).symm
  refine iterT (fun i m' n' => (∀ z, z ≠ x1 → z ≠ x2 → m' z = m z) ∧ J i n') hh F N ⟨fun _ _ _ => rfl, hj⟩ (fun i m' n' h => hkeep i n' h.2) ?_ ?_
  · rintro i v m₁ news₁ s₁ I oI hv ⟨hm, hJ⟩ off F₁ N₁
    exact turn i v m₁ news₁ s₁ I oI hv hJ off (by rw [conv m₁ hm]; exact F₁) N₁
  · rintro m₁ news₁ h tk ⟨hm, hJ⟩ F₁ N₁
    exact done m₁ news₁ h tk hJ (by rw [conv m₁ hm]; exact F₁) N₁
end
end Mine
end

noncomputable section
set_option maxHeartbeats 4000000
namespace Mine
structure MR where
  a : Addr
  k : Nat
  tm : Int
  rg : Int
  cg : Int
  st : Int
  t1 : Tok
  t2 : Tok
  t3 : Tok
  t4 : Tok
abbrev MR.obj (r : MR) : Obj := W.listOf #[.int r.tm r.t1, .int r.rg r.t2, .int r.cg r.t3, .int r.st r.t4] r.k
def MR.ent (r : MR) : Addr × Obj := (r.a, r.obj)
abbrev mrefs (rows : List MR) : List Value := rows.map fun r => .ref r.a
def mled (rows : List MR) : List (Addr × Obj) := rows.map MR.ent
section
variable {prog : Program} {w : World} {A : Around} {E : Value → Shared → Prop} {s : Shared} {h₀ : Heap} {L : Addr} {m : Str → Option Value} {env : Env}
theorem eq_nil {l b : Addr} {items : Array Value} {Q : Value → Shared → Prop} (hl : s.heap.IsList l items) (hb : s.heap.IsList b #[]) (hu : A.units < cLine) (h : Q (.bool (decide (items.size = 0))) s) :
    wpAny (model prog w) A (compareOp .Eq (.ref l) (.ref b)) Q E s := by
  by_cases hz : items.size = 0
  · refine PySem.SeqAt.eq_listAt (e := fun _ => true) hl hb hz hu (fun j h1 _ => absurd h1 (by omega)) ?_
    rw [decide_eq_true hz] at h
    rw [hz]; exact h
  · refine PySem.SeqAt.eq_list_lengthsAt hl hb (by simpa using hz) hu ?_
    rw [decide_eq_false hz] at h; exact h
theorem ne_nil {l b : Addr} {items : Array Value} {Q : Value → Shared → Prop} (hl : s.heap.IsList l items) (hb : s.heap.IsList b #[]) (hu : A.units < cLine) (h : Q (.bool (decide (items.size ≠ 0))) s) :
    wpAny (model prog w) A (compareOp .NotEq (.ref l) (.ref b)) Q E s := by
  refine cmp_ofNotEq ?_
  by_cases hz : items.size = 0
  · refine PySem.SeqAt.RcNeAt.lists (e := fun _ => true) hl hb hz hu (fun j h1 _ => absurd h1 (by omega)) prog w E Q ?_
    rw [decide_eq_false (by omega)] at h
    rw [hz]; exact h
  · refine PySem.SeqAt.RcNeAt.lists_lengths hl hb (by simpa using hz) hu prog w E Q ?_
    rw [decide_eq_true hz] at h; exact h

/-- a turn's end of a comprehension that changes nothing -/
def CEnd (h₀ : Heap) (L : Addr) (m : Str → Option Value) (s₁ : Shared) (led : List (Addr × Obj)) (J : Prop) (s₂ : Shared) : Prop :=
  ∃ h' tk, s₂ = { s₁ with heap := h', toks := tk } ∧ Fr h₀ L h' m ∧ News h₀ L h' led ∧ J
theorem CEnd.intro {s₁ : Shared} {led : List (Addr × Obj)} {J : Prop} {h' : Heap} {tk : Nat} (F : Fr h₀ L h' m) (N : News h₀ L h' led) (j : J) : CEnd h₀ L m s₁ led J { s₁ with heap := h', toks := tk } := ⟨h', tk, rfl, F, N, j⟩
theorem compT {ct elt : Expr} {x : Str} {scope : Scope} {cl : List (Str × Addr)} {S : List (Addr × Obj) → Prop} {P : Nat → Value → Prop} {Fin : List Value → List (Addr × Obj) → Prop} {n : Nat} {news : List (Addr × Obj)} (J : Nat → List Value → Prop) (hS : S news) (hj : J 0 [])
    (turn : ∀ i ys v I oI C oC D m₂ h tk (E' : Value → Shared → Prop), i < n → J i ys → P i v → LCg.NsObj oC m₂ → m₂ x = some v → Fr h₀ L h m → News h₀ L h ((I, oI) :: (C, oC) :: (D, LCg.lst ys) :: news) → LCg.Off3 I C D news → ((@Ne Nat I C) ∧ (@Ne Nat I D) ∧ (@Ne Nat C D)) →
      wpAny (model prog w) A (isTrue ct (compEnvC scope cl C env) (eval ct (compEnvC scope cl C env))) (fun ok s' => if ok = true then
        wpAny (model prog w) A (eval elt (compEnvC scope cl C env)) (fun y => CEnd h₀ L m { s with heap := h, toks := tk } ((I, oI) :: (C, oC) :: (D, LCg.lst ys) :: news) (J (i + 1) (ys ++ [y]))) E' s'
        else CEnd h₀ L m { s with heap := h, toks := tk } ((I, oI) :: (C, oC) :: (D, LCg.lst ys) :: news) (J (i + 1) ys) s') E' { s with heap := h, toks := tk })
    (fin : ∀ ys, J n ys → Fin ys news) : LCt.CompRestT prog w A h₀ L m env ct elt x scope cl s S P Fin n 0 [] news := by
  have go : ∀ k i ys, i + k = n → J i ys → LCt.CompRestT prog w A h₀ L m env ct elt x scope cl s S P Fin k i ys news := by
    intro k
    induction k with
    | zero =>
      intro i ys hi hJ
      have : i = n := by omega
      subst this
      exact LCt.CompRestT.zero (fin ys hJ)
    | succ k ih =>
      intro i ys hi hJ
      refine LCt.CompRestT.succ fun v I oI C oC D m₂ h tk E' hP hC hx F N off ne => ?_
      refine wpAny_mono (turn i ys v I oI C oC D m₂ h tk E' (by omega) hJ hP hC hx F N off ne) (fun ok s' hs' => ?_) fun _ _ e => e
      cases ok with
      | true =>
        simp only [if_true] at hs' ⊢
        refine wpAny_mono hs' (fun y s'' hq => ?_) fun _ _ e => e
        obtain ⟨h', tk', rfl, F', N', hJ'⟩ := hq
        exact LCg.CompEnd.intro F' N' news (fun p hp => hp) off hS (ih (i + 1) _ (by omega) hJ')
      | false =>
        simp only [Bool.false_eq_true, if_false] at hs' ⊢
        obtain ⟨h', tk', rfl, F', N', hJ'⟩ := hs'
        exact LCg.CompEnd.intro F' N' news (fun p hp => hp) off hS (ih (i + 1) _ (by omega) hJ')
  exact go n 0 [] (by omega) hj
theorem compU {elt : Expr} {x : Str} {scope : Scope} {cl : List (Str × Addr)} {S : List (Addr × Obj) → Prop} {P : Nat → Value → Prop} {Fin : List Value → List (Addr × Obj) → Prop} {n : Nat} {news : List (Addr × Obj)} (J : Nat → List Value → Prop) (hS : S news) (hj : J 0 [])
    (turn : ∀ i ys v I oI C oC D m₂ h tk (E' : Value → Shared → Prop), i < n → J i ys → P i v → LCg.NsObj oC m₂ → m₂ x = some v → Fr h₀ L h m → News h₀ L h ((I, oI) :: (C, oC) :: (D, LCg.lst ys) :: news) → LCg.Off3 I C D news → ((@Ne Nat I C) ∧ (@Ne Nat I D) ∧ (@Ne Nat C D)) →
      wpAny (model prog w) A (eval elt (compEnvC scope cl C env)) (fun y => CEnd h₀ L m { s with heap := h, toks := tk } ((I, oI) :: (C, oC) :: (D, LCg.lst ys) :: news) (J (i + 1) (ys ++ [y]))) E' { s with heap := h, toks := tk })
    (fin : ∀ ys, J n ys → Fin ys news) : LCg.CompRest prog w A h₀ L m env elt x scope cl s S P Fin n 0 [] news := by
  have go : ∀ k i ys, i + k = n → J i ys → LCg.CompRest prog w A h₀ L m env elt x scope cl s S P Fin k i ys news := by
    intro k
    induction k with
    | zero =>
      intro i ys hi hJ
      have : i = n := by omega
      subst this
      exact LCg.CompRest.zero (fin ys hJ)
    | succ k ih =>
      intro i ys hi hJ
      refine LCg.CompRest.succ fun v I oI C oC D m₂ h tk E' hP hC hx F N off ne => ?_
      refine wpAny_mono (turn i ys v I oI C oC D m₂ h tk E' (by omega) hJ hP hC hx F N off ne) (fun y s'' hq => ?_) fun _ _ e => e
      obtain ⟨h', tk', rfl, F', N', hJ'⟩ := hq
      exact LCg.CompEnd.intro F' N' news (fun p hp => hp) off hS (ih (i + 1) _ (by omega) hJ')
  exact go n 0 [] (by omega) hj
theorem row_sub0 {value slice : Expr} {a : Addr} {x0 x1 x2 x3 : Value} {k : Nat} {u : Tok} {news : List (Addr × Obj)} {Q : Value → Shared → Prop} (N : News h₀ L s.heap news) (hm : (a, W.listOf #[x0, x1, x2, x3] k) ∈ news) (h : Q x0 s)
    (hs : subscripted slice false (.ref a) (.int 0 u) = operate [.ref a, .int 0 u] (getItem (.ref a) (.int 0 u)) := by with_unfolding_all rfl) (hg : ∀ r, letTemporaryGo value (.ref a) r = pure () := by intro _; with_unfolding_all rfl) :
    wpAny (model prog w) A (subscriptTail value slice (.ref a) (.int 0 u)) Q E s := item_list (News.isList N hm) (by decide) (by decide) rfl h hs hg
theorem row_sub1 {value slice : Expr} {a : Addr} {x0 x1 x2 x3 : Value} {k : Nat} {u : Tok} {news : List (Addr × Obj)} {Q : Value → Shared → Prop} (N : News h₀ L s.heap news) (hm : (a, W.listOf #[x0, x1, x2, x3] k) ∈ news) (h : Q x1 s)
    (hs : subscripted slice false (.ref a) (.int 1 u) = operate [.ref a, .int 1 u] (getItem (.ref a) (.int 1 u)) := by with_unfolding_all rfl) (hg : ∀ r, letTemporaryGo value (.ref a) r = pure () := by intro _; with_unfolding_all rfl) :
    wpAny (model prog w) A (subscriptTail value slice (.ref a) (.int 1 u)) Q E s := item_list (News.isList N hm) (by decide) (by decide) rfl h hs hg
theorem row_sub2 {value slice : Expr} {a : Addr} {x0 x1 x2 x3 : Value} {k : Nat} {u : Tok} {news : List (Addr × Obj)} {Q : Value → Shared → Prop} (N : News h₀ L s.heap news) (hm : (a, W.listOf #[x0, x1, x2, x3] k) ∈ news) (h : Q x2 s)
    (hs : subscripted slice false (.ref a) (.int 2 u) = operate [.ref a, .int 2 u] (getItem (.ref a) (.int 2 u)) := by with_unfolding_all rfl) (hg : ∀ r, letTemporaryGo value (.ref a) r = pure () := by intro _; with_unfolding_all rfl) :
    wpAny (model prog w) A (subscriptTail value slice (.ref a) (.int 2 u)) Q E s := item_list (News.isList N hm) (by decide) (by decide) rfl h hs hg
theorem row_sub3 {value slice : Expr} {a : Addr} {x0 x1 x2 x3 : Value} {k : Nat} {u : Tok} {news : List (Addr × Obj)} {Q : Value → Shared → Prop} (N : News h₀ L s.heap news) (hm : (a, W.listOf #[x0, x1, x2, x3] k) ∈ news) (h : Q x3 s)
    (hs : subscripted slice false (.ref a) (.int 3 u) = operate [.ref a, .int 3 u] (getItem (.ref a) (.int 3 u)) := by with_unfolding_all rfl) (hg : ∀ r, letTemporaryGo value (.ref a) r = pure () := by intro _; with_unfolding_all rfl) :
    wpAny (model prog w) A (subscriptTail value slice (.ref a) (.int 3 u)) Q E s := item_list (News.isList N hm) (by decide) (by decide) rfl h hs hg
end
end Mine
end

noncomputable section
set_option maxHeartbeats 4000000
namespace Mine
theorem fillM1 : PySem.Challenge.rw_nn0294_01.Holds → hd.heap_39 = hd.heap_39 := by
  k_fill
  intro _; rfl
local macro_rules | `(tactic| k_ne) => `(tactic| ((try dsimp only); first | assumption | (refine Ne.symm ?_; assumption) | (refine neN ?_; (try dsimp only); omega)))
local macro_rules | `(tactic| lcg_sub) => `(tactic| (intro p hp; k_ownIn))
local macro_rules | `(tactic| k_mem) => `(tactic| assumption)
local macro_rules | `(tactic| walk_at "exec Assign cons ListComp") => `(tactic| (k_here; k_dflt (refine LCt.Assign_ListComp_T (F₀ := by k_asm) (by rfl) (by with_unfolding_all rfl) (by with_unfolding_all rfl) (by decide) (by rfl) (by decide) (by rfl) (by rfl) (by rfl) ?_)))
local macro_rules | `(tactic| walk_at "eval ListComp") => `(tactic| (k_here; k_dflt (first | refine LCt.ListComp_T (F₀ := by k_asm) (by with_unfolding_all rfl) (by decide) (by rfl) (by decide) (by rfl) ?_ | refine LCg.ListComp_U (F₀ := by k_asm) (by with_unfolding_all rfl) (by decide) (by rfl) (by decide) (by rfl) ?_)))
theorem law_next (w : World) (M : Addr) (km : Nat) (rows : List MR) (rest : List (Addr × Obj)) (hz : rows.length ≤ 1000) :
   Ctr w 1 101 [.ref M] ((M, lo (mrefs rows) km) :: (mled rows ++ rest)) (fun v news' => news' = (M, lo (mrefs rows) km) :: (mled rows ++ rest) ∧ ∃ x t, v = .int x t ∧ NextIs ((rows.filter fun r => decide (0 < r.tm)).map (·.tm)) x) := by
  k_with_none
  w_top off
  intro dp un gd cn cs a ccd cl outer A₀ base h₀ L m s mean mg mb Q E B F X N T hk hd hu hret
  generalize hR : mled rows ++ rest = R at *
  refine wpAny_call ?_
  k_dflt ktr_enter
  k_steps
  k_dflt (refine LCt.CompSrcT.ledger (by rfl) (by k_asm) (by k_asm) (by k_mem) (by rw [List.size_toArray, List.length_map]; exact kdl_size (by omega)) ?_)
  intro g8
  refine compT (fun i ys => IntsAre ys (((rows.take i).filter fun r => decide (0 < r.tm)).map (·.tm))) ?cS ?cj ?ct ?cf
  case cS => exact .inr ⟨_, List.mem_cons_self .., rfl, _, rfl⟩
  case cj => exact IntsAre.nil
  case' ct =>
    intro i ys v I oI C oC D m₂ h tk E' hi hJ hP hC hx F8 N8 off ne
    have hP' : (mrefs rows)[i]? = some v := by simpa using hP
    obtain ⟨r, hr, hrv⟩ : ∃ r, rows[i]? = some r ∧ Value.ref r.a = v := by simpa [List.getElem?_map] using hP'
    subst hrv
    have hmr : (r.a, W.listOf #[.int r.tm r.t1, .int r.rg r.t2, .int r.cg r.t3, .int r.st r.t4] r.k) ∈ R := by
      rw [← hR]; exact List.mem_append_left _ (List.mem_map.mpr ⟨r, List.mem_of_getElem? hr, rfl⟩)
    have hst : ∀ t, 0 < r.tm → IntsAre (ys ++ [.int r.tm t]) (((rows.take (i + 1)).filter fun r => decide (0 < r.tm)).map (·.tm)) := fun t hp => by
      rw [List.take_add_one, hr]
      simp only [Option.toList, List.filter_append, List.filter_cons, List.filter_nil, decide_eq_true hp, if_true, List.map_append, List.map_cons, List.map_nil]
      exact hJ.append (.cons _ _ .nil)
    have hsk : ¬ 0 < r.tm → IntsAre ys (((rows.take (i + 1)).filter fun r => decide (0 < r.tm)).map (·.tm)) := fun hp => by
      rw [List.take_add_one, hr]
      simp only [Option.toList, List.filter_append, List.filter_cons, List.filter_nil, decide_eq_false hp, Bool.false_eq_true, if_false, List.append_nil]
      exact hJ
  case' cf =>
    intro ys hJ
    rw [List.size_toArray, List.length_map, List.take_length] at hJ
  k_with "subscriptTail" =>
    with_reducible show wpAny _ _ (subscriptTail _ _ (Value.ref (MR.a r)) (Value.int _ _)) _ _ _
    k_dflt (first | refine row_sub0 (by k_asm) (by k_mem) ?_ | refine row_sub1 (by k_asm) (by k_mem) ?_ | refine row_sub2 (by k_asm) (by k_mem) ?_ | refine row_sub3 (by k_asm) (by k_mem) ?_)
  k_with "call builtin:min" =>
    with_reducible show wpAny _ _ (call (Value.builtin "min") [Value.ref _]) _ _ _
    have hne9 := of_decide_eq_false (by assumption : decide (List.map (fun x => x.tm) (List.filter (fun r => decide (0 < r.tm)) rows) = []) = false)
    k_dflt (refine kso_min (by k_asm) (by k_asm) (News.isList (by k_asm) (by k_mem)) hJ (List.length_pos_iff.mpr hne9) (by rfl) ?_)
    intro h9 M9 t9 tk9 F9 N9 hM hM2
  k_steps
  · refine' hret _ _ _ _ (by k_asm) (newsSub (by k_asm) (n2 := (M, lo (mrefs rows) km) :: R) (by lcg_sub)) ⟨rfl, _, _, rfl, .inl ⟨of_decide_eq_true (by assumption), rfl⟩⟩
  · refine' hret _ _ _ _ (by k_asm) (newsSub (by k_asm) (n2 := (M, lo (mrefs rows) km) :: R) (by lcg_sub)) ⟨rfl, _, _, rfl, .inr ⟨hM, hM2⟩⟩
  · exact CEnd.intro (by k_asm) (by k_asm) (hst _ (by assumption))
  · exact CEnd.intro (by k_asm) (by k_asm) (hsk (by assumption))
end Mine
end

noncomputable section
set_option maxHeartbeats 4000000
namespace Mine
theorem fillQ4 : PySem.Challenge.rw_nn0294_01.Holds → hd.heap_39 = hd.heap_39 := by
  k_fill
  intro _; rfl
local macro_rules | `(tactic| k_ne) => `(tactic| ((try dsimp only); first | assumption | (refine Ne.symm ?_; assumption) | (refine neN ?_; (try dsimp only); omega)))
local macro_rules | `(tactic| lcg_sub) => `(tactic| (intro p hp; k_ownIn))
structure LR where
  a : Addr
  k : Nat
  reg : Nat
  t1 : Tok
  ev : Int
  t2 : Tok
structure LE where
  t : Int
  l : Addr
  k : Nat
  rows : List LR
abbrev LR.obj (r : LR) : Obj := { cls := .type "tuple", data := .seq #[.str (rn r.reg) r.t1, .int r.ev r.t2] r.k }
def LR.ent (r : LR) : Addr × Obj := (r.a, r.obj)
abbrev LE.refs (e : LE) : List Value := e.rows.map fun r => .ref r.a
def LE.led (e : LE) : List (Addr × Obj) := (e.l, lo e.refs e.k) :: e.rows.map LR.ent
def ledL (les : List LE) : List (Addr × Obj) := les.flatMap LE.led
def kvsL (les : List LE) : List (Int × Value) := les.map fun e => (e.t, .ref e.l)
def QS.add (S : QS) (r : Nat) (ev : Int) : QS := match r with
  | 0 => { S with act := S.act ++ [ev] }
  | 1 => { S with ina := S.ina ++ [ev] }
  | 2 => { S with nba := S.nba ++ [ev] }
  | _ => { S with late := S.late ++ [ev] }
def QS.addAll (S : QS) (rows : List LR) : QS := rows.foldl (fun S r => S.add r.reg r.ev) S
def QS.cap (S : QS) (n : Nat) : Prop := S.act.length ≤ n ∧ S.ina.length ≤ n ∧ S.nba.length ≤ n ∧ S.late.length ≤ n
theorem cap_add {S : QS} {n : Nat} (h : S.cap n) (r : Nat) (ev : Int) : (S.add r ev).cap (n + 1) := by
  obtain ⟨a, b, c, d⟩ := h
  unfold QS.add QS.cap
  split <;> simp only [List.length_append, List.length_singleton] <;> omega
theorem cap_addAll {rows : List LR} : ∀ {S : QS} {n : Nat}, S.cap n → (S.addAll rows).cap (n + rows.length) := by
  induction rows with
  | nil => intro S n h; exact h
  | cons r rows ih =>
    intro S n h
    have := ih (cap_add h r.reg r.ev)
    rw [List.length_cons, show n + (rows.length + 1) = n + 1 + rows.length by omega]
    exact this
theorem ints_snoc {vs : List Value} {ns : List Int} (h : IntsAre vs ns) (n : Int) (t : Tok) : IntsAre (vs ++ [.int n t]) (ns ++ [n]) := h.append (.cons n t .nil)
theorem is_push {c : QC} {S : QS} (h : Is c S) (r : Nat) (ev : Int) (t : Tok) : Is (c.push r (.int ev t)) (S.add r ev) := by
  obtain ⟨a, b, c1, d, e, f⟩ := h
  unfold QC.push QS.add
  split
  · exact ⟨a, b, ints_snoc c1 _ _, d, e, f⟩
  · exact ⟨a, b, c1, ints_snoc d _ _, e, f⟩
  · exact ⟨a, b, c1, d, ints_snoc e _ _, f⟩
  · rename_i h0 h1 h2
    first
      | exact ⟨a, b, c1, d, e, ints_snoc f _ _⟩
      | (split
         · exact absurd rfl h0
         · exact absurd rfl h1
         · exact absurd rfl h2
         · exact ⟨a, b, c1, d, e, ints_snoc f _ _⟩)
theorem push_fix (c : QC) (r : Nat) (v : Value) : (c.push r v).Qa = c.Qa ∧ (c.push r v).later = c.later ∧ (c.push r v).od = c.od ∧ ∀ w, ((c.push r v).led w).map (·.1) = (c.led w).map (·.1) := by
  unfold QC.push
  split <;> exact ⟨rfl, rfl, rfl, fun _ => rfl⟩
theorem add_now {S : QS} (t : Int) (r : Nat) (ev : Int) : ({ S with now := t } : QS).add r ev = { S.add r ev with now := t } := by
  unfold QS.add; split <;> rfl
theorem addAll_snoc {S : QS} {rows : List LR} {i : Nat} {r : LR} (h : rows[i]? = some r) : S.addAll (rows.take (i + 1)) = (S.addAll (rows.take i)).add r.reg r.ev := by
  unfold QS.addAll
  rw [List.take_add_one, h]; simp
theorem ledL_split {pre post : List LE} {e : LE} : ledL (pre ++ e :: post) = ledL pre ++ (e.led ++ ledL post) := by simp [ledL]
theorem ledL_app {pre post : List LE} : ledL (pre ++ post) = ledL pre ++ ledL post := by simp [ledL]
theorem kvs_find {pre post : List LE} {e : LE} (hn : ((kvsL (pre ++ e :: post)).map (·.1)).Nodup) : valueAt (kvsL (pre ++ e :: post)) e.t = some (.ref e.l) ∧ without (kvsL (pre ++ e :: post)) e.t = kvsL (pre ++ post) := by
  have hk : (kvsL (pre ++ e :: post)).map (·.1) = pre.map (·.t) ++ e.t :: post.map (·.t) := by simp [kvsL, Function.comp_def]
  rw [hk] at hn
  have h1 : ∀ x ∈ pre, x.t ≠ e.t := fun x hx q => by
    have := (List.nodup_append.mp hn).2.2 x.t (List.mem_map.mpr ⟨x, hx, rfl⟩) e.t (List.mem_cons_self ..)
    exact this q
  have h2 : ∀ x ∈ post, x.t ≠ e.t := fun x hx q => by
    have := (List.nodup_cons.mp (List.nodup_append.mp hn).2.1).1
    exact this (q ▸ List.mem_map.mpr ⟨x, hx, rfl⟩)
  constructor
  · unfold valueAt kvsL
    rw [List.map_append, List.find?_append]
    have : List.find? (fun kv : Int × Value => decide (kv.1 = e.t)) (pre.map fun e => (e.t, Value.ref e.l)) = none := by
      rw [List.find?_eq_none]
      intro x hx
      obtain ⟨y, hy, rfl⟩ := List.mem_map.mp hx
      simpa using h1 y hy
    rw [this]; simp
  · unfold without kvsL
    rw [List.map_append, List.filter_append, List.map_append, List.map_cons, List.filter_cons]
    have f1 : List.filter (fun kv : Int × Value => decide (kv.1 ≠ e.t)) (pre.map fun e => (e.t, Value.ref e.l)) = pre.map fun e => (e.t, Value.ref e.l) := by
      rw [List.filter_eq_self]
      intro x hx
      obtain ⟨y, hy, rfl⟩ := List.mem_map.mp hx
      simpa using h1 y hy
    have f2 : List.filter (fun kv : Int × Value => decide (kv.1 ≠ e.t)) (post.map fun e => (e.t, Value.ref e.l)) = post.map fun e => (e.t, Value.ref e.l) := by
      rw [List.filter_eq_self]
      intro x hx
      obtain ⟨y, hy, rfl⟩ := List.mem_map.mp hx
      simpa using h2 y hy
    rw [f1, f2]; simp
theorem kvs_pick {les : List LE} {M : Int} (h : M ∈ (kvsL les).map (·.1)) : ∃ pre e post, les = pre ++ e :: post ∧ e.t = M := by
  obtain ⟨q, hq, rfl⟩ := List.mem_map.mp h
  obtain ⟨e, he, rfl⟩ := List.mem_map.mp hq
  obtain ⟨pre, post, rfl⟩ := List.append_of_mem he
  exact ⟨pre, e, post, rfl, rfl⟩

theorem nd_ins {l R : List (Addr × Obj)} {I : Addr} {oI : Obj} (nd : ND (l ++ R)) (off : ∀ p ∈ l ++ R, p.1 ≠ I) : ND (l ++ (I, oI) :: R) := by
  unfold ND at *
  rw [List.map_append, List.map_cons]
  refine (List.perm_middle.nodup_iff).mpr (List.nodup_cons.mpr ⟨fun h => ?_, by rw [← List.map_append]; exact nd⟩)
  rw [← List.map_append] at h
  obtain ⟨p, hp, e⟩ := List.mem_map.mp h
  exact off p hp e
theorem mem_ins {l R : List (Addr × Obj)} {x : Addr × Obj} : ∀ p ∈ l ++ x :: R, p ∈ x :: (l ++ R) := fun p hp => by
  rcases List.mem_append.mp hp with h | h
  · exact List.mem_cons_of_mem _ (List.mem_append_left _ h)
  · rcases List.mem_cons.mp h with h | h
    · rw [h]; exact List.mem_cons_self ..
    · exact List.mem_cons_of_mem _ (List.mem_append_right _ h)
theorem mem_ins' {l R : List (Addr × Obj)} {x : Addr × Obj} : ∀ p ∈ x :: (l ++ R), p ∈ l ++ x :: R := fun p hp => by
  rcases List.mem_cons.mp hp with h | h
  · rw [h]; exact List.mem_append_right _ (List.mem_cons_self ..)
  · rcases List.mem_append.mp h with h | h
    · exact List.mem_append_left _ h
    · exact List.mem_append_right _ (List.mem_cons_of_mem _ h)
theorem off_same {l l' R : List (Addr × Obj)} {I : Addr} (e : l'.map (·.1) = l.map (·.1)) (off : ∀ p ∈ l ++ R, p.1 ≠ I) : ∀ p ∈ l' ++ R, p.1 ≠ I := fun p hp => by
  rcases List.mem_append.mp hp with h | h
  · have : p.1 ∈ l.map (·.1) := by rw [← e]; exact List.mem_map.mpr ⟨p, h, rfl⟩
    obtain ⟨q, hq, hqe⟩ := List.mem_map.mp this
    rw [← hqe]; exact off q (List.mem_append_left _ hq)
  · exact off p (List.mem_append_right _ h)
theorem nd_same {l l' R : List (Addr × Obj)} (e : l'.map (·.1) = l.map (·.1)) (nd : ND (l ++ R)) : ND (l' ++ R) := nd.same (by rw [List.map_append, List.map_append, e])
theorem is_cap {c : QC} {S : QS} {n : Nat} (h : Is c S) (hc : S.cap n) (hn : n ≤ 1000) : c.va.length ≤ 1000 ∧ c.vi.length ≤ 1000 ∧ c.vn.length ≤ 1000 ∧ c.vl.length ≤ 1000 := by
  obtain ⟨a, b, c1, d⟩ := hc
  have h1 := h.act.length
  have h2 := h.ina.length
  have h3 := h.nba.length
  have h4 := h.late.length
  refine ⟨?_, ?_, ?_, ?_⟩ <;> omega
theorem keep_R {l rest R : List (Addr × Obj)} {pre post : List LE} {e : LE} (hR : ledL (pre ++ e :: post) ++ rest = R) : ∀ p ∈ l ++ (ledL (pre ++ post) ++ rest), p ∈ l ++ R := fun p hp => by
  subst hR
  rw [ledL_split]
  simp only [ledL_app, List.mem_append] at hp ⊢
  rcases hp with h | (h | h) | h
  · exact .inl h
  · exact .inr (.inl (.inl h))
  · exact .inr (.inl (.inr (.inr h)))
  · exact .inr (.inr h)
theorem nd_keep {l rest R : List (Addr × Obj)} {pre post : List LE} {e : LE} (hR : ledL (pre ++ e :: post) ++ rest = R) (nd : ND (l ++ R)) : ND (l ++ (ledL (pre ++ post) ++ rest)) := by
  subst hR
  unfold ND at *
  refine List.Sublist.nodup ?_ nd
  refine List.Sublist.map _ (List.Sublist.append (List.Sublist.refl _) (List.Sublist.append ?_ (List.Sublist.refl _)))
  rw [ledL_split, ledL_app]
  exact List.Sublist.append (List.Sublist.refl _) (List.sublist_append_right _ _)
theorem advance (w : World) (c : QC) (les : List LE) (rest : List (Addr × Obj)) (nd : ND (c.led w ++ (ledL les ++ rest))) {S : QS} (hS : Is c S) (hz : S.cap 500) 
   (hod : c.od.IsDictOf (PySem.intKind prg w) (kvsL les)) (hlo : (c.later == sysModules) = false) (hn : les.length ≤ 60) (hpos : ∀ e ∈ les, 0 ≤ e.t) (hreg : ∀ e ∈ les, e.rows.length ≤ 400 ∧ ∀ r ∈ e.rows, r.reg < 4) :
   Ctr w 3 70 [.ref c.Qa] (c.led w ++ (ledL les ++ rest)) (fun v news' => (les = [] ∧ v = .bool false ∧ news' = c.led w ++ (ledL les ++ rest)) ∨
     ∃ pre e post c', les = pre ++ e :: post ∧ (∀ e' ∈ les, e.t ≤ e'.t) ∧ v = .bool true ∧ news' = c'.led w ++ (ledL (pre ++ post) ++ rest) ∧ ND news' ∧ c'.Qa = c.Qa ∧ c'.later = c.later ∧
       c'.od.IsDictOf (PySem.intKind prg w) (kvsL (pre ++ post)) ∧ Is c' { S.addAll e.rows with now := e.t }) := by
  have hkn : ((kvsL les).map (·.1)).Nodup := by obtain ⟨_, _, _, _, _, _, h⟩ := hod; exact h
  have C1 := next_time w c (ledL les ++ rest) hod hlo (by simpa [kvsL] using hn)
  obtain ⟨Qa, D, act, ina, nba, late, later, ts, now, tn, head, th, va, ka, vi, ki, vn, kn, vl, kl, od⟩ := c
  generalize hR : ledL les ++ rest = R at *
  dsimp only [QC.led, qd, List.cons_append, List.nil_append] at nd C1
  refine nd7E nd ?_
  intro h1 h2 h3 h4 h5 h6 h7 h8 h9 h10 h11 h12 h13 h14 h15 h16 h17 h18 h19 h20 h21 hoff
  k_with_none
  w_top off
  intro dp un gd cn cs a ccd cl outer A₀ base h₀ L m s mean mg mb Q E B F X N T hk hd hu hret
  dsimp only [QC.led, qd, List.cons_append, List.nil_append] at N
  dsimp only at hod hlo
  refine wpAny_call ?_
  k_dflt ktr_enter
  k_with "call ref" =>
    refine' Ctr.useN C1 ?kB ?kF ?kX ?kN ?kT ?kk ?kd ?ku ?_
    case kB => k_asm
    case kF => k_asm
    case kX => k_asm
    case kN => k_asm
    case kT => k_asm
    case kk => rfl
    case kd => ktr_room
    case ku => ktr_units
    intro M tM h9 tk9 F9 N9 hM
    clear C1
  k_with "getMethod ref" =>
    with_reducible show wpAny _ _ (getMethod (Value.ref later) (Str.ofString "pop") _) _ _ _
    k_dflt (refine kob_method (knd := PySem.intKind _ _) PySem.F.slot_dict_pop PySem.F.type_dict_pop (by k_asm) (by k_mem) hod ?_)
  k_with "call builtin:dict.pop" =>
    have hM2 : M ∈ (kvsL les).map (·.1) ∧ ∀ a ∈ (kvsL les).map (·.1), M ≤ a := by
      rcases hM with ⟨_, q⟩ | q
      · omega
      · exact q
    obtain ⟨pre, e, post, hles, hMe⟩ := kvs_pick hM2.1
    have hmin : ∀ e' ∈ les, e.t ≤ e'.t := fun e' he' => by
      have := hM2.2 e'.t (List.mem_map.mpr ⟨(e'.t, .ref e'.l), List.mem_map.mpr ⟨e', he', rfl⟩, rfl⟩)
      omega
    subst hMe
    subst hles
    have hfind := kvs_find hkn
    have hsz : (kvsL (pre ++ e :: post)).length ≤ sizeLine := kdl_size (by rw [show (kvsL (pre ++ e :: post)).length = (pre ++ e :: post).length by simp [kvsL]]; omega)
    k_dflt (refine' kob_pop (knd := PySem.intKind _ _) ?kF ?kN ?kU hod (PySem.intKind_is _ _ _ _) (.inl rfl) rfl (PySem.F.args_dict_pop_2 _ _) hfind.1 hsz ?_)
    case kF => k_asm
    case kN => k_asm
    case kU => k_updF
    intro h9' od9 F9' N9' hod9
    rw [hfind.2] at hod9
    (try dsimp only at N9')
  k_with "exec For Tuple Name cons nil" =>
    with_reducible rename Fr _ _ _ _ => lF'
    with_unfolding_all refine' For_invTF lF' ?_ (by intro _; rfl)
  k_with "pyIter ref" =>
    have hmR : ∀ p ∈ e.led, p ∈ R := fun p hp => by rw [← hR, ledL_split]; exact List.mem_append_left _ (List.mem_append_right _ (List.mem_append_left _ hp))
    obtain ⟨hrl, hr4⟩ := hreg e (List.mem_append_right _ (List.mem_cons_self ..))
    k_dflt (refine' iterT2 (vs := e.refs) (k := e.k) (Str.ofString "region") (Str.ofString "event") (fun i n => ∃ cI : QC, n = cI.led w ++ R ∧ ND n ∧ cI.Qa = Qa ∧ cI.later = later ∧ cI.od = od9 ∧ Is cI { S.addAll (e.rows.take i) with now := e.t }) ?jh ?jF ?jN ?jj ?jk ?jt ?jd)
    case jh => rfl
    case jF => k_asm
    case jN => k_asm
    case jj => exact ⟨⟨Qa, D, act, ina, nba, late, later, ts, e.t, tM, head, th, va, ka, vi, ki, vn, kn, vl, kl, od9⟩, rfl, ND.same nd rfl, rfl, rfl, rfl, ⟨rfl, hS.head, hS.act, hS.ina, hS.nba, hS.late⟩⟩
    case jk => exact fun i n' ⟨cI, hn, _⟩ => hn ▸ List.mem_append_right _ (hmR _ (List.mem_cons_self ..))
    case' jt =>
      rintro i v u news₁ s₁ I oI hv ⟨cI, hnI, ndI, hQI, hlI, hodI, hIs⟩ off F₁ N₁
      subst hnI
      obtain ⟨r, hr, hrv⟩ : ∃ r, e.rows[i]? = some r ∧ Value.ref r.a = v := by simpa [List.getElem?_map] using hv
      subst hrv
      have hrm : r ∈ e.rows := List.mem_of_getElem? hr
      have hmr : (r.a, r.obj) ∈ R := hmR _ (List.mem_cons_of_mem _ (List.mem_map.mpr ⟨r, hrm, rfl⟩))
      have hi : i < e.rows.length := (List.getElem?_eq_some_iff.mp hr).1
      have hcap := cap_addAll (rows := e.rows.take i) hz
      have hcap2 : QS.cap { S.addAll (e.rows.take i) with now := e.t } 900 := by
        have hl : (e.rows.take i).length ≤ 400 := Nat.le_trans (List.length_take_le' ..) hrl
        obtain ⟨q1, q2, q3, q4⟩ := hcap
        exact ⟨by show (S.addAll (e.rows.take i)).act.length ≤ 900; omega, by show (S.addAll (e.rows.take i)).ina.length ≤ 900; omega, by show (S.addAll (e.rows.take i)).nba.length ≤ 900; omega, by show (S.addAll (e.rows.take i)).late.length ≤ 900; omega⟩
      have C2 := add w cI ((I, oI) :: R) (nd_ins ndI off) r.reg (hr4 r hrm) r.ev r.t2 r.t1 (is_cap hIs hcap2 (by decide))
      have hJ2 : ∃ c2 : QC, (cI.push r.reg (.int r.ev r.t2)).led w ++ R = c2.led w ++ R ∧ ND ((cI.push r.reg (.int r.ev r.t2)).led w ++ R) ∧ c2.Qa = Qa ∧ c2.later = later ∧ c2.od = od9 ∧ Is c2 { S.addAll (e.rows.take (i + 1)) with now := e.t } := by
        obtain ⟨p1, p2, p3, p4⟩ := push_fix cI r.reg (.int r.ev r.t2)
        refine ⟨_, rfl, nd_same (p4 w) ndI, p1.trans hQI, p2.trans hlI, p3.trans hodI, ?_⟩
        rw [addAll_snoc hr, ← add_now]
        exact is_push hIs _ _ _
      have hoff2 := off_same ((push_fix cI r.reg (.int r.ev r.t2)).2.2.2 w) off
      obtain ⟨Qa', D', act', ina', nba', late', later', ts', now', tn', head', th', va', ka', vi', ki', vn', kn', vl', kl', od'⟩ := cI
      dsimp only at hQI hlI hodI
      subst hQI; subst hlI; subst hodI
      dsimp only [QC.led, qd, List.cons_append, List.nil_append] at N₁ ndI
      k_dflt (refine' unpackN_ F₁ N₁ (News.isTup N₁ (List.mem_cons_of_mem _ (List.mem_append_right (QC.led w ⟨_, D', act', ina', nba', late', _, ts', now', tn', head', th', va', ka', vi', ki', vn', kn', vl', kl', _⟩) hmr))) rfl rfl rfl ?_)
      intro h5 F5 N5
    case' jd =>
      rintro u news₁ h tk ⟨cI, hnI, ndI, hQI, hlI, hodI, hIs⟩ F₁ N₁
      subst hnI
  k_with "call ref" =>
    refine' Ctr.useE C2 ?kB ?kF ?kX ?kN ?kT ?kk ?kd ?ku ?_
    case kB => k_asm
    case kF => k_asm
    case kX => k_asm
    case kN => exact newsSub (by k_asm) mem_ins
    case kT => k_asm
    case kk => rfl
    case kd => ktr_room
    case ku => ktr_units
    intro h9 tk9 F9 N9
  k_steps
  · refine' hret _ _ _ _ (by k_asm) (by k_asm) (.inl ⟨?_, rfl, rfl⟩)
    rcases hM with ⟨q, _⟩ | ⟨q, _⟩
    · simpa [kvsL] using q
    · exfalso
      obtain ⟨pre, e, post, hles, rfl⟩ := kvs_pick q
      have := hpos e (by rw [hles]; exact List.mem_append_right _ (List.mem_cons_self ..))
      omega
  · refine' hret _ (cI.led w ++ (ledL (pre ++ post) ++ rest)) _ _ (by k_asm) (newsSub (by k_asm) (keep_R hR)) (.inr ⟨pre, e, post, cI, rfl, hmin, rfl, rfl, nd_keep hR ndI, hQI, hlI, ?_, ?_⟩)
    · rw [hodI]; exact hod9
    · have e9 : e.refs.length = e.rows.length := by simp
      rw [e9, List.take_length] at hIs
      exact hIs
  · refine ⟨rfl, TEnd.intro (by k_asm) (by k_asm) mem_ins' hoff2 ⟨?_, ?_⟩⟩
    · intro z h1 h2; first | rfl | (simp [h1, h2]; done) | (simp_all; done)
    · exact hJ2
end Mine
end

noncomputable section
set_option maxHeartbeats 4000000
namespace Mine
theorem fillQ5 : PySem.Challenge.rw_nn0294_01.Holds → hd.heap_39 = hd.heap_39 := by
  k_fill
  intro _; rfl
local macro_rules | `(tactic| k_ne) => `(tactic| ((try dsimp only); first | assumption | (refine Ne.symm ?_; assumption) | (refine neN ?_; (try dsimp only); omega)))
local macro_rules | `(tactic| lcg_sub) => `(tactic| (intro p hp; k_ownIn))
theorem nd8 {a b c d e f g l : Addr} {oa ob oc od oe of og ol : Obj} {rest : List (Addr × Obj)} (h : ND ((a, oa) :: (b, ob) :: (c, oc) :: (d, od) :: (e, oe) :: (f, of) :: (g, og) :: (l, ol) :: rest)) :
   (a ≠ l ∧ b ≠ l ∧ c ≠ l ∧ d ≠ l ∧ e ≠ l ∧ f ≠ l ∧ g ≠ l) ∧ OwnOff rest [a, b, c, d, e, f, g, l] := by
  have hl := nd_ne (pre := [(a, oa), (b, ob), (c, oc), (d, od), (e, oe), (f, of), (g, og)]) (x := l) (o := ol) h
  have hz := nd_own (pre := [(a, oa), (b, ob), (c, oc), (d, od), (e, oe), (f, of), (g, og), (l, ol)]) h
  exact ⟨⟨hl (a, oa) (by (repeat (first | exact List.mem_cons_self .. | apply List.mem_cons_of_mem))), hl (b, ob) (by (repeat (first | exact List.mem_cons_self .. | apply List.mem_cons_of_mem))), hl (c, oc) (by (repeat (first | exact List.mem_cons_self .. | apply List.mem_cons_of_mem))), hl (d, od) (by (repeat (first | exact List.mem_cons_self .. | apply List.mem_cons_of_mem))), hl (e, oe) (by (repeat (first | exact List.mem_cons_self .. | apply List.mem_cons_of_mem))), hl (f, of) (by (repeat (first | exact List.mem_cons_self .. | apply List.mem_cons_of_mem))), hl (g, og) (by (repeat (first | exact List.mem_cons_self .. | apply List.mem_cons_of_mem)))⟩, hz⟩
theorem ndi1 {a b c d e f g l tp : Addr} {rest : List Addr} (nd : List.Nodup (a :: b :: c :: d :: e :: f :: g :: l :: rest)) (h : tp ∉ a :: b :: c :: d :: e :: f :: g :: l :: rest) : List.Nodup (a :: b :: c :: d :: e :: f :: g :: l :: tp :: rest) :=
  ND.mid (pre := [a, b, c, d, e, f, g, l]) nd h (List.Sublist.refl _)
abbrev tup (r : Nat) (t1 : Tok) (ev : Int) (t2 : Tok) (k : Nat) : Obj := { cls := .type "tuple", data := .seq #[.str (rn r) t1, .int ev t2] k }
theorem aa_old (w : World) (c : QC) (rest : List (Addr × Obj)) (l : Addr) (vs : List Value) (k : Nat) (nd : ND (c.led w ++ (l, lo vs k) :: rest)) {kvs : List (Int × Value)}
   (hod : c.od.IsDictOf (PySem.intKind prg w) kvs) (hlo : (c.later == sysModules) = false) (hn0 : kvs.length ≤ 60) (d : Int) (hd0 : d ≠ 0) (hv : valueAt kvs (c.now + d) = some (.ref l)) (hvs : vs.length ≤ 1000) (r : Nat) (ev : Int) (td te t : Tok) :
   Ctr w 1 42 [.ref c.Qa, .int d td, .int ev te, .str (rn r) t] (c.led w ++ (l, lo vs k) :: rest) (fun v news' => v = .none ∧ ∃ tp, news' = c.led w ++ (l, lo (vs ++ [.ref tp]) (k + 1)) :: (tp, tup r t ev te 0) :: rest ∧ ND news') := by
  obtain ⟨Qa, D, act, ina, nba, late, later, ts, now, tn, head, th, va, ka, vi, ki, vn, kn, vl, kl, od⟩ := c
  dsimp only [QC.led, qd, List.cons_append, List.nil_append] at nd
  refine nd7E nd ?_
  intro h1 h2 h3 h4 h5 h6 h7 h8 h9 h10 h11 h12 h13 h14 h15 h16 h17 h18 h19 h20 h21 hoff0
  clear hoff0
  obtain ⟨⟨l1, l2, l3, l4, l5, l6, l7⟩, hoff⟩ := nd8 nd
  k_with_none
  w_top off
  intro dp un gd cn cs a ccd cl outer A₀ base h₀ L m s mean mg mb Q E B F X N T hk hd hu hret
  dsimp only [QC.led, qd, List.cons_append, List.nil_append] at N
  dsimp only at hod hlo hv
  refine wpAny_call ?_
  k_dflt ktr_enter
  k_with "compareOp NotIn int ref" =>
    with_reducible show wpAny _ _ (compareOp .NotIn (Value.int _ _) (Value.ref later)) _ _ _
    k_dflt (refine wpAny_notIn_of (knd := PySem.intKind _ _) (PySem.intKind_is _ _ _ _) hlo (kda_dict (by k_asm) (by k_mem) hod).mapOf ?_)
    rw [hv]
    dsimp only [Option.isSome, Bool.not_true]
  k_with "getItem ref int" =>
    with_reducible show wpAny _ _ (getItem (Value.ref later) (Value.int _ _)) _ _ _
    k_dflt (refine wpAny_getItem_of (knd := PySem.intKind _ _) (PySem.intKind_is _ _ _ _) (kda_dict (by k_asm) (by k_mem) hod).mapOf hv ?_)
  k_steps
  · exact absurd (by assumption) hd0
  · exact absurd (by assumption) hd0
  · (with_reducible rename News _ _ _ _ => NN)
    simp only [List.push_toArray] at NN
    refine' hret _ (QC.led w ⟨Qa, D, act, ina, nba, late, later, ts, now, tn, head, th, va, ka, vi, ki, vn, kn, vl, kl, od⟩ ++ (l, lo (vs ++ [.ref _]) (k + 1)) :: (_, tup r t ev te 0) :: rest) _ _ (by k_asm) (newsSub NN (by dsimp only [QC.led, qd, List.cons_append, List.nil_append]; lcg_sub)) ⟨rfl, _, rfl, ?_⟩
    exact ndi1 nd (allLt_nd nd (by simp only [AllLt]; assumption))
theorem stored_new {kvs : List (Int × Value)} {T : Int} (h : valueAt kvs T = none) (v : Value) : stored kvs T v = kvs ++ [(T, v)] ∧ valueAt (kvs ++ [(T, v)]) T = some v := by
  unfold valueAt at h
  rw [Option.map_eq_none_iff, List.find?_eq_none] at h
  constructor
  · unfold stored
    rw [if_neg]
    rw [List.any_eq_true]
    rintro ⟨x, hx, hq⟩
    exact h x hx hq
  · unfold valueAt
    rw [List.find?_append, List.find?_eq_none.mpr h]
    simp
theorem ndi2 {a b c d e f g l tp : Addr} {rest : List Addr} (nd : List.Nodup (a :: b :: c :: d :: e :: f :: g :: rest)) (h : l ∉ a :: b :: c :: d :: e :: f :: g :: rest) (h2 : tp ∉ l :: a :: b :: c :: d :: e :: f :: g :: rest) : List.Nodup (a :: b :: c :: d :: e :: f :: g :: l :: tp :: rest) := by
  have h1 : List.Nodup (a :: b :: c :: d :: e :: f :: g :: l :: rest) := ND.mid (pre := [a, b, c, d, e, f, g]) nd h (List.Sublist.refl _)
  refine ND.mid (pre := [a, b, c, d, e, f, g, l]) h1 (fun q => h2 ?_) (List.Sublist.refl _)
  simp only [List.mem_cons] at q ⊢
  rcases q with q | q | q | q | q | q | q | q | q <;> simp [q]
theorem allLt_nd2 {q a : Addr} {l : List (Addr × Obj)} (_ : ND l) (h : AllLt q ((a, (default : Obj)) :: l)) : q ∉ a :: l.map (·.1) := allLt_not h
theorem aa_new (w : World) (c : QC) (rest : List (Addr × Obj)) (nd : ND (c.led w ++ rest)) {kvs : List (Int × Value)}
   (hod : c.od.IsDictOf (PySem.intKind prg w) kvs) (hlo : (c.later == sysModules) = false) (hn : kvs.length ≤ 60) (d : Int) (hd0 : d ≠ 0) (hv : valueAt kvs (c.now + d) = none) (r : Nat) (ev : Int) (td te t : Tok) :
   Ctr w 1 42 [.ref c.Qa, .int d td, .int ev te, .str (rn r) t] (c.led w ++ rest) (fun v news' => v = .none ∧ ∃ l tp od', news' = ({ c with od := od' } : QC).led w ++ (l, lo [.ref tp] 1) :: (tp, tup r t ev te 0) :: rest ∧ od'.IsDictOf (PySem.intKind prg w) (kvs ++ [(c.now + d, .ref l)]) ∧ ND news') := by
  obtain ⟨Qa, D, act, ina, nba, late, later, ts, now, tn, head, th, va, ka, vi, ki, vn, kn, vl, kl, od⟩ := c
  dsimp only [QC.led, qd, List.cons_append, List.nil_append] at nd
  refine nd7E nd ?_
  intro h1 h2 h3 h4 h5 h6 h7 h8 h9 h10 h11 h12 h13 h14 h15 h16 h17 h18 h19 h20 h21 hoff
  k_with_none
  w_top off
  intro dp un gd cn cs a ccd cl outer A₀ base h₀ L m s mean mg mb Q E B F X N T hk hd hu hret
  dsimp only [QC.led, qd, List.cons_append, List.nil_append] at N
  dsimp only at hod hlo hv
  refine wpAny_call ?_
  k_dflt ktr_enter
  k_with "compareOp NotIn int ref" =>
    with_reducible show wpAny _ _ (compareOp .NotIn (Value.int _ _) (Value.ref later)) _ _ _
    k_dflt (refine wpAny_notIn_of (knd := PySem.intKind _ _) (PySem.intKind_is _ _ _ _) hlo (kda_dict (by k_asm) (by k_mem) hod).mapOf ?_)
    rw [hv]
    dsimp only [Option.isSome, Bool.not_false]
  k_with "setItem ref int" =>
    with_reducible show wpAny _ _ (setItem (Value.ref later) (Value.int _ _) _) _ _ _
    k_dflt (refine' kda_set (knd := PySem.intKind _ _) ?kF ?kN ?kU hod (PySem.intKind_is _ _ _ _) (kdl_size (by omega)) ?_)
    case kF => k_asm
    case kN => k_asm
    case kU => k_updF
    intro h9' od9 F9' N9' hod9
    rw [(stored_new hv _).1] at hod9
    (try dsimp only at N9')
  k_with "getItem ref int" =>
    with_reducible show wpAny _ _ (getItem (Value.ref later) (Value.int _ _)) _ _ _
    k_dflt (refine wpAny_getItem_of (knd := PySem.intKind _ _) (PySem.intKind_is _ _ _ _) (kda_dict (by k_asm) (by k_mem) hod9).mapOf (stored_new hv _).2 ?_)
  k_steps
  · exact absurd (by assumption) hd0
  · exact absurd (by assumption) hd0
  · (with_reducible rename News _ _ _ _ => NN)
    refine' hret _ (QC.led w ⟨Qa, D, act, ina, nba, late, later, ts, now, tn, head, th, va, ka, vi, ki, vn, kn, vl, kl, od9⟩ ++ (_, lo [.ref _] 1) :: (_, tup r t ev te 0) :: rest) _ _ (by k_asm) (newsSub NN (by dsimp only [QC.led, qd, List.cons_append, List.nil_append]; lcg_sub)) ⟨rfl, _, _, _, rfl, hod9, ?_⟩
    exact ndi2 nd (allLt_nd nd (by simp only [AllLt]; assumption)) (allLt_nd2 nd (by simp only [AllLt]; assumption))
end Mine
end

noncomputable section
set_option maxHeartbeats 4000000
namespace Mine
theorem fillQ6 : PySem.Challenge.rw_nn0294_01.Holds → hd.heap_39 = hd.heap_39 := by
  k_fill
  intro _; rfl
local macro_rules | `(tactic| k_ne) => `(tactic| ((try dsimp only); first | assumption | (refine Ne.symm ?_; assumption) | (refine neN ?_; (try dsimp only); omega)))
local macro_rules | `(tactic| lcg_sub) => `(tactic| (intro p hp; k_ownIn))
theorem aa_zero0 (w : World) (c : QC) (rest : List (Addr × Obj)) (ev : Int) (td te t : Tok)
   (C : ∀ t : Tok, Ctr w 1 35 [.ref c.Qa, .str "inactive" t, .int ev te] (c.led w ++ rest) (fun v news' => v = .none ∧ news' = (c.push 1 (.int ev te)).led w ++ rest)) :
   Ctr w 2 42 [.ref c.Qa, .int 0 td, .int ev te, .str "active" t] (c.led w ++ rest) (fun v news' => v = .none ∧ news' = (c.push 1 (.int ev te)).led w ++ rest) := by
  obtain ⟨Qa, D, act, ina, nba, late, later, ts, now, tn, head, th, va, ka, vi, ki, vn, kn, vl, kl, od⟩ := c
  dsimp only [QC.led, qd, List.cons_append, List.nil_append] at C
  k_with_none
  w_top off
  intro dp un gd cn cs a ccd cl outer A₀ base h₀ L m s mean mg mb Q E B F X N T hk hd hu hret
  dsimp only [QC.led, qd, List.cons_append, List.nil_append] at N
  refine wpAny_call ?_
  k_dflt ktr_enter
  k_with "call ref" =>
    refine' Ctr.useE (C _) ?kB ?kF ?kX ?kN ?kT ?kk ?kd ?ku ?_
    case kB => k_asm
    case kF => k_asm
    case kX => k_asm
    case kN => k_asm
    case kT => k_asm
    case kk => rfl
    case kd => ktr_room
    case ku => ktr_units
    intro h9 tk9 F9 N9
  k_steps
  all_goals exact hret _ _ _ _ (by k_asm) (by k_asm) ⟨rfl, rfl⟩
theorem aa_zero1 (w : World) (c : QC) (rest : List (Addr × Obj)) (ev : Int) (td te t : Tok)
   (C : ∀ t : Tok, Ctr w 1 35 [.ref c.Qa, .str "inactive" t, .int ev te] (c.led w ++ rest) (fun v news' => v = .none ∧ news' = (c.push 1 (.int ev te)).led w ++ rest)) :
   Ctr w 2 42 [.ref c.Qa, .int 0 td, .int ev te, .str "inactive" t] (c.led w ++ rest) (fun v news' => v = .none ∧ news' = (c.push 1 (.int ev te)).led w ++ rest) := by
  obtain ⟨Qa, D, act, ina, nba, late, later, ts, now, tn, head, th, va, ka, vi, ki, vn, kn, vl, kl, od⟩ := c
  dsimp only [QC.led, qd, List.cons_append, List.nil_append] at C
  k_with_none
  w_top off
  intro dp un gd cn cs a ccd cl outer A₀ base h₀ L m s mean mg mb Q E B F X N T hk hd hu hret
  dsimp only [QC.led, qd, List.cons_append, List.nil_append] at N
  refine wpAny_call ?_
  k_dflt ktr_enter
  k_with "call ref" =>
    refine' Ctr.useE (C _) ?kB ?kF ?kX ?kN ?kT ?kk ?kd ?ku ?_
    case kB => k_asm
    case kF => k_asm
    case kX => k_asm
    case kN => k_asm
    case kT => k_asm
    case kk => rfl
    case kd => ktr_room
    case ku => ktr_units
    intro h9 tk9 F9 N9
  k_steps
  all_goals exact hret _ _ _ _ (by k_asm) (by k_asm) ⟨rfl, rfl⟩
theorem aa_zero2 (w : World) (c : QC) (rest : List (Addr × Obj)) (ev : Int) (td te t : Tok)
   (C : ∀ t : Tok, Ctr w 1 35 [.ref c.Qa, .str "nba" t, .int ev te] (c.led w ++ rest) (fun v news' => v = .none ∧ news' = (c.push 2 (.int ev te)).led w ++ rest)) :
   Ctr w 2 42 [.ref c.Qa, .int 0 td, .int ev te, .str "nba" t] (c.led w ++ rest) (fun v news' => v = .none ∧ news' = (c.push 2 (.int ev te)).led w ++ rest) := by
  obtain ⟨Qa, D, act, ina, nba, late, later, ts, now, tn, head, th, va, ka, vi, ki, vn, kn, vl, kl, od⟩ := c
  dsimp only [QC.led, qd, List.cons_append, List.nil_append] at C
  k_with_none
  w_top off
  intro dp un gd cn cs a ccd cl outer A₀ base h₀ L m s mean mg mb Q E B F X N T hk hd hu hret
  dsimp only [QC.led, qd, List.cons_append, List.nil_append] at N
  refine wpAny_call ?_
  k_dflt ktr_enter
  k_with "call ref" =>
    refine' Ctr.useE (C _) ?kB ?kF ?kX ?kN ?kT ?kk ?kd ?ku ?_
    case kB => k_asm
    case kF => k_asm
    case kX => k_asm
    case kN => k_asm
    case kT => k_asm
    case kk => rfl
    case kd => ktr_room
    case ku => ktr_units
    intro h9 tk9 F9 N9
  k_steps
  all_goals exact hret _ _ _ _ (by k_asm) (by k_asm) ⟨rfl, rfl⟩
theorem aa_zero3 (w : World) (c : QC) (rest : List (Addr × Obj)) (ev : Int) (td te t : Tok)
   (C : ∀ t : Tok, Ctr w 1 35 [.ref c.Qa, .str "late" t, .int ev te] (c.led w ++ rest) (fun v news' => v = .none ∧ news' = (c.push 3 (.int ev te)).led w ++ rest)) :
   Ctr w 2 42 [.ref c.Qa, .int 0 td, .int ev te, .str "late" t] (c.led w ++ rest) (fun v news' => v = .none ∧ news' = (c.push 3 (.int ev te)).led w ++ rest) := by
  obtain ⟨Qa, D, act, ina, nba, late, later, ts, now, tn, head, th, va, ka, vi, ki, vn, kn, vl, kl, od⟩ := c
  dsimp only [QC.led, qd, List.cons_append, List.nil_append] at C
  k_with_none
  w_top off
  intro dp un gd cn cs a ccd cl outer A₀ base h₀ L m s mean mg mb Q E B F X N T hk hd hu hret
  dsimp only [QC.led, qd, List.cons_append, List.nil_append] at N
  refine wpAny_call ?_
  k_dflt ktr_enter
  k_with "call ref" =>
    refine' Ctr.useE (C _) ?kB ?kF ?kX ?kN ?kT ?kk ?kd ?ku ?_
    case kB => k_asm
    case kF => k_asm
    case kX => k_asm
    case kN => k_asm
    case kT => k_asm
    case kk => rfl
    case kd => ktr_room
    case ku => ktr_units
    intro h9 tk9 F9 N9
  k_steps
  all_goals exact hret _ _ _ _ (by k_asm) (by k_asm) ⟨rfl, rfl⟩
theorem aa_zero (w : World) (c : QC) (rest : List (Addr × Obj)) (nd : ND (c.led w ++ rest)) (r : Nat) (hr : r < 4) (ev : Int) (td te t : Tok)
   (hz : c.va.length ≤ 1000 ∧ c.vi.length ≤ 1000 ∧ c.vn.length ≤ 1000 ∧ c.vl.length ≤ 1000) :
   Ctr w 2 42 [.ref c.Qa, .int 0 td, .int ev te, .str (rn r) t] (c.led w ++ rest) (fun v news' => v = .none ∧ news' = (c.push (max r 1) (.int ev te)).led w ++ rest) := by
  match r, hr with
  | 0, _ => exact aa_zero0 w c rest ev td te t (fun t => add w c rest nd 1 (by decide) ev te t hz)
  | 1, _ => exact aa_zero1 w c rest ev td te t (fun t => add w c rest nd 1 (by decide) ev te t hz)
  | 2, _ => exact aa_zero2 w c rest ev td te t (fun t => add w c rest nd 2 (by decide) ev te t hz)
  | 3, _ => exact aa_zero3 w c rest ev td te t (fun t => add w c rest nd 3 (by decide) ev te t hz)
end Mine
end

noncomputable section
set_option maxHeartbeats 4000000
namespace Mine
theorem fillQ7 : PySem.Challenge.rw_nn0294_01.Holds → hd.heap_39 = hd.heap_39 := by
  k_fill
  intro _; rfl
local macro_rules | `(tactic| k_ne) => `(tactic| ((try dsimp only); first | assumption | (refine Ne.symm ?_; assumption) | (refine neN ?_; (try dsimp only); omega)))
local macro_rules | `(tactic| lcg_sub) => `(tactic| (intro p hp; k_ownIn))
local macro_rules | `(tactic| k_mem) => `(tactic| assumption)
local macro_rules | `(tactic| walk_at "pyIter ref") => `(tactic| k_extra "pyIter ref")
def lenOf (les : List LE) (T : Int) : Nat := ((les.find? fun e => decide (e.t = T)).map (·.rows.length)).getD 0
theorem les_find {les : List LE} (hn : (les.map (·.t)).Nodup) {e : LE} (he : e ∈ les) : les.find? (fun x => decide (x.t = e.t)) = some e := by
  induction les with
  | nil => cases he
  | cons y ys ih =>
    simp only [List.map_cons, List.nodup_cons] at hn
    rcases List.mem_cons.mp he with rfl | h
    · simp
    · have : y.t ≠ e.t := fun q => hn.1 (q ▸ List.mem_map.mpr ⟨e, h, rfl⟩)
      rw [List.find?_cons]
      simp only [this, decide_false]
      exact ih hn.2 h
theorem lenOf_at {les : List LE} (hn : (les.map (·.t)).Nodup) {e : LE} (he : e ∈ les) : lenOf les e.t = e.rows.length := by
  unfold lenOf; rw [les_find hn he]; rfl
theorem valueAt_at {les : List LE} (hn : (les.map (·.t)).Nodup) {e : LE} (he : e ∈ les) : valueAt (kvsL les) e.t = some (.ref e.l) := by
  unfold valueAt kvsL
  rw [List.find?_map]
  have : ((fun kv : Int × Value => decide (kv.1 = e.t)) ∘ fun e : LE => (e.t, Value.ref e.l)) = fun x => decide (x.t = e.t) := rfl
  rw [this, les_find hn he]; rfl
theorem sum_lens {les : List LE} (hn : (les.map (·.t)).Nodup) {ns : List Int} (hp : ns.Perm (les.map (·.t))) : (ns.map (lenOf les)).sum = (les.map (·.rows.length)).sum := by
  rw [(hp.map (lenOf les)).sum_nat, List.map_map]
  congr 1
  exact List.map_congr_left fun e he => lenOf_at hn he
theorem pending (w : World) (c : QC) (les : List LE) (rest : List (Addr × Obj)) {S : QS} (hS : Is c S) (hz : S.cap 1000) (hh : S.head ≤ S.act.length)
   (hod : c.od.IsDictOf (PySem.intKind prg w) (kvsL les)) (hlo : (c.later == sysModules) = false) (hn : les.length ≤ 60) (hreg : ∀ e ∈ les, e.rows.length ≤ 400) :
   Ctr w 1 77 [.ref c.Qa] (c.led w ++ (ledL les ++ rest)) (fun v news' => news' = c.led w ++ (ledL les ++ rest) ∧ ∃ t, v = .int ((S.act.length : Int) - S.head + (S.ina.length + S.nba.length + S.late.length) + ((les.map (·.rows.length)).sum : Nat)) t) := by
  have hkn : (les.map (·.t)).Nodup := by obtain ⟨_, _, _, _, _, _, h⟩ := hod; simpa [kvsL, Function.comp_def] using h
  obtain ⟨Qa, D, act, ina, nba, late, later, ts, now, tn, head, th, va, ka, vi, ki, vn, kn, vl, kl, od⟩ := c
  obtain ⟨snow, shead, A, I, Nb, Lt⟩ := S
  obtain ⟨hz1, hz2, hz3, hz4⟩ := hz
  obtain ⟨hnow, hhead, hva, hvi, hvn, hvl⟩ := hS
  dsimp only at hnow hhead hva hvi hvn hvl hod hlo hz1 hz2 hz3 hz4 hh
  generalize hR : ledL les ++ rest = R at *
  k_with_none
  w_top off
  intro dp un gd cn cs a ccd cl outer A₀ base h₀ L m s mean mg mb Q E B F X N T hk hd hu hret
  dsimp only [QC.led, qd, List.cons_append, List.nil_append] at N
  refine wpAny_call ?_
  k_dflt ktr_enter
  k_with "call builtin:sorted" =>
    with_reducible show wpAny _ _ (call (Value.builtin "sorted") [Value.ref later]) _ _ _
    k_dflt (refine sorted_dict (by rfl) (by k_asm) (by k_asm) (by k_mem) hod hlo (by rw [show (kvsL les).length = les.length by simp [kvsL]]; omega) ?_)
    intro D9 h9 vs9 ns9 c9 tk9 F9 N9 lt9 hi9 hp9
  k_with "getItem ref int" =>
    with_reducible show wpAny _ _ (getItem (Value.ref later) (Value.int _ _)) _ _ _
    k_dflt (refine wpAny_getItem_of (knd := PySem.intKind _ _) (PySem.intKind_is _ _ _ _) (kda_dict (by k_asm) (by k_mem) hod).mapOf hval ?_)
  k_with "subscriptTail" =>
    with_reducible show wpAny _ _ (subscriptTail _ _ (Value.ref later) (Value.int _ _)) _ _ _
    k_dflt (refine kda_item (knd := PySem.intKind _ _) (by k_asm) (by k_mem) hod (PySem.intKind_is _ _ _ _) hval ?_)
  k_with "call builtin:len" =>
    with_reducible show wpAny _ _ (call (Value.builtin "len") [Value.ref (LE.l e)]) _ _ _
    k_dflt (refine len_list (News.isList (by k_asm) (by k_mem)) (by rw [List.size_toArray, List.length_map]; omega) ?_)
    rw [List.size_toArray, List.length_map]
  repeat' ((fail_if_success (with_reducible show wpAny _ _ (exec (Stmt.For _ _ _ _ _) _) _ _ _)); first | (k_unfold; (try dsimp only)) | walk1 | (dsimp only; walk1))
  (rename Fr _ _ _ _ => lF')
  with_unfolding_all refine' For_invVF lF' ?k1 ?k2 ?_
  case k1 => exact rfl
  case k2 => exact rfl
  repeat' ((fail_if_success (with_reducible show wpAny _ _ (pyIter _) _ _ _)); first | (k_unfold; (try dsimp only)) | walk1 | (dsimp only; walk1))
  k_dflt (refine' iterV2 (vs := vs9) (k := c9) (y0 := Str.ofString "count") (fun i cv n => n = (D9, W.listOf vs9.toArray c9) :: (QC.led w ⟨Qa, D, act, ina, nba, late, later, ts, now, tn, head, th, va, ka, vi, ki, vn, kn, vl, kl, od⟩ ++ R) ∧
    ∃ t, cv = .int ((A.length : Int) - head + (I.length + Nb.length + Lt.length) + (((ns9.take i).map (lenOf les)).sum : Nat)) t) ?jh ?jF ?jN ?jy ?jx ?jj ?jk ?jt ?jd)
  case jh => rfl
  case jF => k_asm
  case jN => k_asm
  case jy => exact rfl
  case jx => decide
  case jj => exact ⟨rfl, _, congrArg (fun z => Value.int z _) (by simp)⟩
  case jk => exact fun i c n ⟨hn, _⟩ => hn ▸ List.mem_cons_self ..
  case' jt =>
    rintro i v cv news₁ h tk I9 oI hv ⟨hnI, t8, hcv⟩ off F₁ N₁
    subst hnI; subst hcv
    obtain ⟨x8, hx8⟩ : ∃ x, ns9[i]? = some x := by
      have := (List.getElem?_eq_some_iff.mp hv).1
      exact ⟨ns9[i]'(by rw [← hi9.length]; exact this), List.getElem?_eq_getElem _⟩
    obtain ⟨t9, ht9⟩ := hi9.get i x8 hx8
    rw [hv] at ht9; cases ht9
    have hxm : x8 ∈ les.map (·.t) := by
      have := hp9.mem_iff.mp (List.mem_of_getElem? hx8)
      simpa [kvsL, Function.comp_def] using this
    obtain ⟨e, he, hex⟩ := List.mem_map.mp hxm
    subst hex
    have hval := valueAt_at hkn he
    have hmR : (e.l, lo e.refs e.k) ∈ R := by
      rw [← hR]
      exact List.mem_append_left _ (List.mem_flatMap.mpr ⟨e, he, List.mem_cons_self ..⟩)
    have hel := hreg e he
    have hsum : ((ns9.take (i + 1)).map (lenOf les)).sum = ((ns9.take i).map (lenOf les)).sum + e.rows.length := by
      rw [List.take_add_one, hx8]
      simp [lenOf_at hkn he]
    dsimp only [QC.led, qd, List.cons_append, List.nil_append] at N₁ off
  case' jd =>
    rintro u cv news₁ h tk ⟨hnI, t8, hcv⟩ F₁ N₁
    subst hnI; subst hcv
    have hsum : ((ns9.take vs9.length).map (lenOf les)).sum = (les.map (·.rows.length)).sum := by
      rw [hi9.length, List.take_length]
      exact sum_lens hkn (by simpa [kvsL, Function.comp_def] using hp9)
    dsimp only [QC.led, qd, List.cons_append, List.nil_append] at N₁
  k_steps
  · exact hret _ _ _ _ (by k_asm) (newsSub (by k_asm) (fun p hp => List.mem_cons_of_mem _ hp)) ⟨rfl, t8, by rw [hsum, hhead]⟩
  · refine TEnd.intro (by k_asm) (by k_asm) (fun p hp => hp) off ⟨?_, _, rfl, rfl, _, congrArg (fun z => Value.int z _) ?_⟩
    · intro z h1 h2; first | rfl | (simp [h1, h2]; done) | (simp_all; done)
    · rw [hsum]; omega
end Mine
end

noncomputable section
set_option maxHeartbeats 4000000
namespace Mine
def LE.abs (e : LE) : List (Nat × Int) := e.rows.map fun r => (r.reg, r.ev)
def Ins (les : List LE) (T : Int) (x : Nat × Int) (les' : List LE) : Prop :=
  (∃ pre e post e', les = pre ++ e :: post ∧ les' = pre ++ e' :: post ∧ e.t = T ∧ e'.t = T ∧ e'.abs = e.abs ++ [x]) ∨
  (T ∉ les.map (·.t) ∧ ∃ e', les' = les ++ [e'] ∧ e'.t = T ∧ e'.abs = [x])
theorem ND.perm {l l' : List (Addr × Obj)} (h : ND l) (p : l.Perm l') : ND l' := (p.map _).nodup_iff.mp h
theorem led_od (w : World) (c : QC) (od' : Obj) : (({ c with od := od' } : QC).led w).map (·.1) = (c.led w).map (·.1) := rfl
theorem perm_old {A P E Q R : List (Addr × Obj)} : (A ++ ((P ++ (E ++ Q)) ++ R)).Perm (A ++ (E ++ (P ++ (Q ++ R)))) := by
  refine List.Perm.append_left A ?_
  rw [List.append_assoc, List.append_assoc]
  exact List.perm_append_comm_assoc ..
theorem aa_pos (w : World) (c : QC) (les : List LE) (rest : List (Addr × Obj)) (nd : ND (c.led w ++ (ledL les ++ rest)))
   (hod : c.od.IsDictOf (PySem.intKind prg w) (kvsL les)) (hlo : (c.later == sysModules) = false) (hn : les.length ≤ 60) (hreg : ∀ e ∈ les, e.rows.length ≤ 400) (d : Int) (hd0 : d ≠ 0) (r : Nat) (ev : Int) (td te t : Tok) :
   Ctr w 1 42 [.ref c.Qa, .int d td, .int ev te, .str (rn r) t] (c.led w ++ (ledL les ++ rest)) (fun v news' => v = .none ∧ ∃ od' les', news' = ({ c with od := od' } : QC).led w ++ (ledL les' ++ rest) ∧ ND news' ∧
      od'.IsDictOf (PySem.intKind prg w) (kvsL les') ∧ Ins les (c.now + d) (r, ev) les') := by
  have hkn : (les.map (·.t)).Nodup := by obtain ⟨_, _, _, _, _, _, h⟩ := hod; simpa [kvsL, Function.comp_def] using h
  have hkl : (kvsL les).length = les.length := by simp [kvsL]
  by_cases hT : c.now + d ∈ les.map (·.t)
  · obtain ⟨e, he, hx⟩ := List.mem_map.mp hT
    have hv := valueAt_at hkn he
    rw [hx] at hv
    obtain ⟨pre, post, rfl⟩ := List.append_of_mem he
    have p1 : (c.led w ++ (ledL (pre ++ e :: post) ++ rest)).Perm (c.led w ++ (e.l, lo e.refs e.k) :: (e.rows.map LR.ent ++ (ledL pre ++ (ledL post ++ rest)))) := by
      rw [ledL_split]; exact perm_old
    refine Ctr.mono (aa_old w c _ e.l e.refs e.k (nd.perm p1) hod hlo (by omega) d hd0 hv (by have := hreg e he; simp; omega) r ev td te t) (fun p hp => p1.mem_iff.mpr hp) ?_
    rintro v n1 ⟨rfl, tp, rfl, nd1⟩
    let e' : LE := ⟨e.t, e.l, e.k + 1, e.rows ++ [⟨tp, 0, r, t, ev, te⟩]⟩
    have p2 : (c.led w ++ (e.l, lo (e.refs ++ [.ref tp]) (e.k + 1)) :: (tp, tup r t ev te 0) :: (e.rows.map LR.ent ++ (ledL pre ++ (ledL post ++ rest)))).Perm (c.led w ++ (ledL (pre ++ e' :: post) ++ rest)) := by
      rw [ledL_split]
      refine List.Perm.trans ?_ perm_old.symm
      refine List.Perm.append_left _ ?_
      have : e'.led = (e.l, lo (e.refs ++ [.ref tp]) (e.k + 1)) :: (e.rows.map LR.ent ++ [(tp, tup r t ev te 0)]) := by simp [LE.led, LE.refs, e', LR.ent]
      rw [this, List.cons_append, List.append_assoc]
      exact List.Perm.cons _ List.perm_middle.symm
    refine ⟨c.led w ++ (ledL (pre ++ e' :: post) ++ rest), fun p hp => p2.mem_iff.mpr hp, rfl, c.od, pre ++ e' :: post, rfl, nd1.perm p2, ?_, .inl ⟨pre, e, post, e', rfl, rfl, hx, hx, ?_⟩⟩
    · have : kvsL (pre ++ e' :: post) = kvsL (pre ++ e :: post) := by simp [kvsL, e']
      rw [this]; exact hod
    · simp [LE.abs, e']
  · have hv : valueAt (kvsL les) (c.now + d) = none := by
      unfold valueAt kvsL
      rw [Option.map_eq_none_iff, List.find?_eq_none]
      intro x hx hq
      obtain ⟨y, hy, rfl⟩ := List.mem_map.mp hx
      exact hT (by rw [← of_decide_eq_true hq]; exact List.mem_map.mpr ⟨y, hy, rfl⟩)
    refine Ctr.mono (aa_new w c _ nd hod hlo (by omega) d hd0 hv r ev td te t) (fun p hp => hp) ?_
    rintro v n1 ⟨rfl, l, tp, od', rfl, hod', nd1⟩
    let e' : LE := ⟨c.now + d, l, 1, [⟨tp, 0, r, t, ev, te⟩]⟩
    have p2 : (({ c with od := od' } : QC).led w ++ (l, lo [.ref tp] 1) :: (tp, tup r t ev te 0) :: (ledL les ++ rest)).Perm (({ c with od := od' } : QC).led w ++ (ledL (les ++ [e']) ++ rest)) := by
      refine List.Perm.append_left _ ?_
      rw [ledL_app, List.append_assoc]
      exact List.perm_append_comm_assoc [_, _] _ _
    refine ⟨_, fun p hp => p2.mem_iff.mpr hp, rfl, od', les ++ [e'], rfl, nd1.perm p2, ?_, .inr ⟨hT, e', rfl, rfl, rfl⟩⟩
    have : kvsL (les ++ [e']) = kvsL les ++ [(c.now + d, .ref l)] := by simp [kvsL, e']
    rw [this]; exact hod'
end Mine
end

noncomputable section
set_option maxHeartbeats 4000000
namespace Mine
theorem fillM2 : PySem.Challenge.rw_nn0294_01.Holds → hd.heap_39 = hd.heap_39 := by
  k_fill
  intro _; rfl
local macro_rules | `(tactic| k_ne) => `(tactic| ((try dsimp only); first | assumption | (refine Ne.symm ?_; assumption) | (refine neN ?_; (try dsimp only); omega)))
local macro_rules | `(tactic| lcg_sub) => `(tactic| (intro p hp; k_ownIn))
local macro_rules | `(tactic| walk_at "pyIter ref") => `(tactic| k_extra "pyIter ref")
/-- a model row as plain data -/
structure PR where
  tm : Int
  rg : Int
  cg : Int
  st : Int
def MR.pl (r : MR) : PR := ⟨r.tm, r.rg, r.cg, r.st⟩
noncomputable def renum (step : Int) : Int → List PR → List PR
  | _, [] => []
  | C, r :: rs => if r.tm = step then { r with cg := C } :: renum step (C + 1) rs else r :: renum step C rs
def cntS (step : Int) (rs : List PR) : Nat := (rs.filter fun r => decide (r.tm = step)).length
def shift (step : Int) (r : PR) : PR := if 0 < r.tm then { r with tm := r.tm - step } else r
theorem renum_snoc (step : Int) (r : PR) : ∀ (xs : List PR) (C : Int), renum step C (xs ++ [r]) = renum step C xs ++ [if r.tm = step then { r with cg := C + cntS step xs } else r]
  | [], C => by simp only [List.nil_append, renum, cntS, List.filter_nil, List.length_nil]; split <;> simp
  | x :: xs, C => by
    rw [List.cons_append]
    unfold renum
    split
    · rename_i h
      rw [renum_snoc step r xs (C + 1), List.cons_append]
      have : C + 1 + (cntS step xs : Int) = C + (cntS step (x :: xs) : Int) := by simp [cntS, h]; omega
      rw [this]
    · rename_i h
      rw [renum_snoc step r xs C, List.cons_append]
      have : cntS step xs = cntS step (x :: xs) := by simp [cntS, h]
      rw [this]
theorem cntS_snoc (step : Int) (r : PR) (xs : List PR) : cntS step (xs ++ [r]) = cntS step xs + if r.tm = step then 1 else 0 := by
  unfold cntS; split <;> simp [*]
theorem cntS_le (step : Int) (xs : List PR) : cntS step xs ≤ xs.length := by unfold cntS; exact List.length_filter_le ..
theorem mrefs_of {rs rows : List MR} (h : rs.map (·.a) = rows.map (·.a)) : mrefs rs = mrefs rows := by
  have : ∀ l : List MR, mrefs l = (l.map (·.a)).map Value.ref := fun l => by simp
  rw [this, this, h]
theorem mled_addr {rs rows : List MR} (h : rs.map (·.a) = rows.map (·.a)) : (mled rs).map (·.1) = (mled rows).map (·.1) := by
  have : ∀ l : List MR, (mled l).map (·.1) = l.map (·.a) := fun l => by simp [mled, MR.ent, Function.comp_def]
  rw [this, this, h]
theorem mled_split {pre post : List MR} {r : MR} : mled (pre ++ r :: post) = mled pre ++ r.ent :: mled post := by simp [mled]
/-- the i-th row in front -/
theorem row_front {A rest : List (Addr × Obj)} {pre post : List MR} {r : MR} : (A ++ (mled (pre ++ r :: post) ++ rest)).Perm (A ++ (r.ent :: (mled pre ++ (mled post ++ rest)))) := by
  refine List.Perm.append_left A ?_
  rw [mled_split, List.append_assoc]
  exact List.perm_middle
theorem NDperm {l l' : List (Addr × Obj)} (h : ND l) (p : l.Perm l') : ND l' := (p.map _).nodup_iff.mp h
theorem nd4 {a b c d : Addr} {oa ob oc od : Obj} {rest : List (Addr × Obj)} (h : ND ((a, oa) :: (b, ob) :: (c, oc) :: (d, od) :: rest)) :
   ((a ≠ b ∧ a ≠ c ∧ a ≠ d) ∧ (b ≠ c ∧ b ≠ d) ∧ c ≠ d) ∧ OwnOff rest [a, b, c, d] := by
  unfold ND at h
  simp only [List.map_cons, List.nodup_cons, List.mem_cons, not_or] at h
  obtain ⟨h1, h2, h3, h4, _⟩ := h
  refine ⟨⟨⟨h1.1, h1.2.1, h1.2.2.1⟩, ⟨h2.1, h2.2.1⟩, h3.1⟩, ?_⟩
  intro p hp x hx e
  have hm : p.1 ∈ rest.map (·.1) := List.mem_map.mpr ⟨p, hp, rfl⟩
  simp only [List.mem_cons, List.not_mem_nil, or_false] at hx
  rcases hx with rfl | rfl | rfl | rfl
  · exact h1.2.2.2 (e ▸ hm)
  · exact h2.2.2 (e ▸ hm)
  · exact h3.2 (e ▸ hm)
  · exact h4 (e ▸ hm)
/-- where the i-th of the rows stands -/
theorem rows_at {rs rows : List MR} {i : Nat} {v : Value} (h : rs.map (·.a) = rows.map (·.a)) (hv : (mrefs rows)[i]? = some v) : ∃ pre r post, rs = pre ++ r :: post ∧ pre.length = i ∧ v = .ref r.a := by
  rw [← mrefs_of h] at hv
  have hi : i < rs.length := by
    have := (List.getElem?_eq_some_iff.mp hv).1
    simpa using this
  refine ⟨rs.take i, rs[i], rs.drop (i + 1), ?_, by simp; omega, ?_⟩
  · rw [← List.drop_eq_getElem_cons hi, List.take_append_drop]
  · have : (mrefs rs)[i]? = some (.ref rs[i].a) := by simp [List.getElem?_map, List.getElem?_eq_getElem hi]
    rw [this] at hv; cases hv; rfl

abbrev adv1 (step C : Int) (rows : List MR) (i : Nat) : List PR := renum step C ((rows.take i).map MR.pl) ++ (rows.drop i).map MR.pl
theorem renum_len (step : Int) : ∀ (xs : List PR) (C : Int), (renum step C xs).length = xs.length
  | [], _ => rfl
  | x :: xs, C => by unfold renum; split <;> simp [renum_len step xs]
/-- what a row at place i is like, and what the turn makes of it -/
theorem adv1_turn {step C : Int} {rows pre post : List MR} {r : MR} {i : Nat} (h : (pre ++ r :: post).map MR.pl = adv1 step C rows i) (hi : pre.length = i) (hl : (pre ++ r :: post).length = rows.length) :
    ∃ r0, rows[i]? = some r0 ∧ r.pl = r0.pl ∧ ∀ r', r'.pl = (if r0.tm = step then { r0.pl with cg := C + cntS step ((rows.take i).map MR.pl) } else r0.pl) → (pre ++ r' :: post).map MR.pl = adv1 step C rows (i + 1) := by
  have hlt : i < rows.length := by rw [← hl, ← hi]; simp
  have hd : rows.drop i = rows[i] :: rows.drop (i + 1) := List.drop_eq_getElem_cons hlt
  have h2 : pre.map MR.pl ++ r.pl :: post.map MR.pl = renum step C ((rows.take i).map MR.pl) ++ (rows[i].pl :: (rows.drop (i + 1)).map MR.pl) := by
    have h3 := h
    rw [adv1, hd, List.map_cons, List.map_append, List.map_cons] at h3; exact h3
  obtain ⟨e1, e2⟩ := List.append_inj h2 (by rw [renum_len]; simp; omega)
  simp only [List.cons.injEq] at e2
  refine ⟨rows[i], List.getElem?_eq_getElem hlt, e2.1, fun r' hr' => ?_⟩
  rw [List.map_append, List.map_cons, e1, e2.2, hr', adv1, List.take_add_one, List.getElem?_eq_getElem hlt]
  simp only [Option.toList, List.map_append, List.map_cons, List.map_nil, renum_snoc, List.append_assoc, List.cons_append, List.nil_append]
  rfl
theorem renum_tm (step : Int) : ∀ (xs : List PR) (C : Int), (renum step C xs).map (·.tm) = xs.map (·.tm)
  | [], _ => rfl
  | x :: xs, C => by
    unfold renum
    split
    · rw [List.map_cons, List.map_cons, renum_tm step xs]
    · rw [List.map_cons, List.map_cons, renum_tm step xs]
theorem map_turn (f : PR → PR) {P : List PR} {pre post : List MR} {r : MR} {i : Nat} (h : (pre ++ r :: post).map MR.pl = (P.take i).map f ++ P.drop i) (hi : pre.length = i) (hl : (pre ++ r :: post).length = P.length) :
    P[i]? = some r.pl ∧ ∀ r', r'.pl = f r.pl → (pre ++ r' :: post).map MR.pl = (P.take (i + 1)).map f ++ P.drop (i + 1) := by
  have hlt : i < P.length := by rw [← hl, ← hi]; simp
  have hd : P.drop i = P[i] :: P.drop (i + 1) := List.drop_eq_getElem_cons hlt
  have h2 : pre.map MR.pl ++ r.pl :: post.map MR.pl = (P.take i).map f ++ (P[i] :: P.drop (i + 1)) := by
    have h3 := h
    rw [hd, List.map_append, List.map_cons] at h3; exact h3
  obtain ⟨e1, e2⟩ := List.append_inj h2 (by simp; omega)
  simp only [List.cons.injEq] at e2
  refine ⟨by rw [List.getElem?_eq_getElem hlt, e2.1], fun r' hr' => ?_⟩
  rw [List.map_append, List.map_cons, e1, e2.2, hr', e2.1, List.take_add_one, List.getElem?_eq_getElem hlt]
  simp only [Option.toList, List.map_append, List.map_cons, List.map_nil, List.append_assoc, List.cons_append, List.nil_append]
theorem row_end {h₀ : Heap} {L I9 : Addr} {oI : Obj} {J : (Str → Option Value) → List (Addr × Obj) → Prop} {s₁ : Shared} {h' : Heap} {tk : Nat} {m' : Str → Option Value} {A A0 rest : List (Addr × Obj)} {pre post : List MR} {r r' : MR}
    (F : Fr h₀ L h' m') (NN : News h₀ L h' ((I9, oI) :: (A ++ r'.ent :: (mled pre ++ (mled post ++ rest))))) (hA : A.map (·.1) = A0.map (·.1)) (hr : r'.a = r.a) (off : ∀ p ∈ A0 ++ (mled (pre ++ r :: post) ++ rest), p.1 ≠ I9)
    (hj : J m' (A ++ (mled (pre ++ r' :: post) ++ rest))) : TEnd h₀ L I9 oI J s₁ { s₁ with heap := h', toks := tk } := by
  refine TEnd.intro F NN (fun p hp => ?_) ?_ hj
  · rcases List.mem_cons.mp hp with h | h
    · rw [h]; exact List.mem_cons_self ..
    · exact List.mem_cons_of_mem _ (row_front.mem_iff.mp h)
  · have e : (A ++ mled (pre ++ r' :: post)).map (·.1) = (A0 ++ mled (pre ++ r :: post)).map (·.1) := by
      simp [hA, mled, MR.ent, hr]
    have := off_same (l := A0 ++ mled (pre ++ r :: post)) (l' := A ++ mled (pre ++ r' :: post)) (R := rest) e (by rw [List.append_assoc]; exact off)
    rw [List.append_assoc] at this; exact this
end Mine
end

noncomputable section
set_option maxHeartbeats 4000000
namespace Mine
theorem fillM3 : PySem.Challenge.rw_nn0294_01.Holds → hd.heap_39 = hd.heap_39 := by
  k_fill
  intro _; rfl
local macro_rules | `(tactic| k_ne) => `(tactic| ((try dsimp only); first | assumption | (refine Ne.symm ?_; assumption) | (refine neN ?_; (try dsimp only); omega)))
local macro_rules | `(tactic| lcg_sub) => `(tactic| (intro p hp; k_ownIn))
local macro_rules | `(tactic| walk_at "pyIter ref") => `(tactic| k_extra "pyIter ref")
theorem law_advanced (w : World) (M Cm : Addr) (km kc : Nat) (C : Int) (tc : Tok) (rows : List MR) (rest : List (Addr × Obj)) (hz : rows.length ≤ 1000)
   (nd : ND ((M, lo (mrefs rows) km) :: (Cm, W.listOf #[.int C tc] kc) :: (mled rows ++ rest))) (hb : ∀ r ∈ rows, 0 ≤ r.tm ∧ r.tm ≤ 10 ^ 30) :
   Ctr w 2 108 [.ref M, .ref Cm] ((M, lo (mrefs rows) km) :: (Cm, W.listOf #[.int C tc] kc) :: (mled rows ++ rest)) (fun v news' =>
      (((rows.filter fun r => decide (0 < r.tm)).map (·.tm)) = [] ∧ v = .bool false ∧ news' = (M, lo (mrefs rows) km) :: (Cm, W.listOf #[.int C tc] kc) :: (mled rows ++ rest)) ∨
      ∃ step rs tc' kc', NextIs ((rows.filter fun r => decide (0 < r.tm)).map (·.tm)) step ∧ 0 < step ∧ v = .bool true ∧ rs.map (·.a) = rows.map (·.a) ∧
        news' = (M, lo (mrefs rs) km) :: (Cm, W.listOf #[.int (C + cntS step (rows.map MR.pl)) tc'] kc') :: (mled rs ++ rest) ∧ rs.map MR.pl = (renum step C (rows.map MR.pl)).map (shift step)) := by
  k_with_none
  w_top off
  intro dp un gd cn cs a ccd cl outer A₀ base h₀ L m s mean mg mb Q E B F X N T hk hd hu hret
  have C1 := law_next w M km rows ((Cm, W.listOf #[.int C tc] kc) :: rest) hz
  refine wpAny_call ?_
  k_dflt ktr_enter
  k_with "call ref" =>
    refine' Ctr.useN C1 ?kB ?kF ?kX ?kN ?kT ?kk ?kd ?ku ?_
    case kB => k_asm
    case kF => k_asm
    case kX => k_asm
    case kN => exact newsSub (by k_asm) (by intro p hp; rcases List.mem_cons.mp hp with h | h; (rw [h]; exact List.mem_cons_self ..); (refine List.mem_cons_of_mem _ (mem_ins p h)))
    case kT => k_asm
    case kk => rfl
    case kd => ktr_room
    case ku => ktr_units
    intro step tS h9 tk9 F9 N9 hS
    clear C1
  repeat' ((fail_if_success (with_reducible show wpAny _ _ (exec (Stmt.For _ _ _ _ _) _) _ _ _)); first | (k_unfold; (try dsimp only)) | walk1 | (dsimp only; walk1))
  · refine' hret _ _ _ _ (by k_asm) (newsSub (by k_asm) (by intro p hp; rcases List.mem_cons.mp hp with h | h; (rw [h]; exact List.mem_cons_self ..); (refine List.mem_cons_of_mem _ (mem_ins' p h)))) (.inl ⟨?_, rfl, rfl⟩)
    rcases hS with ⟨q, _⟩ | ⟨q, _⟩
    · exact q
    · exfalso
      obtain ⟨r, hr, rfl⟩ := List.mem_map.mp q
      have := (List.mem_filter.mp hr).2
      have := of_decide_eq_true this
      omega
  have hst0 : NextIs ((rows.filter fun r => decide (0 < r.tm)).map (·.tm)) step ∧ 0 < step ∧ step ≤ 10 ^ 30 := by
    rcases hS with ⟨_, q⟩ | q
    · omega
    · refine ⟨.inr q, ?_⟩
      obtain ⟨r, hr, rfl⟩ := List.mem_map.mp q.1
      have h1 := List.mem_filter.mp hr
      exact ⟨of_decide_eq_true h1.2, (hb r h1.1).2⟩
  clear hS
  obtain ⟨hS, hs0, hs1⟩ := hst0
  (rename Fr _ _ _ _ => lF')
  with_unfolding_all refine' For_invVF lF' ?k1 ?k2 ?_
  case k1 => exact rfl
  case k2 => exact rfl
  repeat' ((fail_if_success (with_reducible show wpAny _ _ (pyIter _) _ _ _)); first | (k_unfold; (try dsimp only)) | walk1 | (dsimp only; walk1))
  k_dflt (refine' iterV1 (vs := mrefs rows) (k := km) (fun i n => ∃ rs kc1 tc1, rs.map (·.a) = rows.map (·.a) ∧ rs.map MR.pl = adv1 step C rows i ∧
    n = (M, lo (mrefs rows) km) :: (Cm, W.listOf #[.int (C + cntS step ((rows.take i).map MR.pl)) tc1] kc1) :: (mled rs ++ rest)) ?jh ?jF ?jN ?jj ?jk ?jt ?jd)
  case jh => rfl
  case jF => k_asm
  case jN => exact newsSub (by k_asm) (by intro p hp; rcases List.mem_cons.mp hp with h | h; (rw [h]; exact List.mem_cons_self ..); (refine List.mem_cons_of_mem _ (mem_ins' p h)))
  case jj => exact ⟨rows, kc, tc, rfl, by simp [adv1, renum], by simp [cntS]⟩
  case jk => exact fun i n ⟨_, _, _, _, _, hn⟩ => hn ▸ List.mem_cons_self ..
  case' jt =>
    rintro i v news₁ h tk I9 oI hv ⟨rs, kc1, tc1, hra, hrp, hnI⟩ off F₁ N₁
    subst hnI
    obtain ⟨pre, r, post, hrs, hpi, hvr⟩ := rows_at hra hv
    subst hrs
    obtain ⟨ra, rk, rtm, rrg, rcg, rst, rt1, rt2, rt3, rt4⟩ := r
    dsimp only at hvr
    subst hvr
    have hrl : (pre ++ ⟨ra, rk, rtm, rrg, rcg, rst, rt1, rt2, rt3, rt4⟩ :: post).length = rows.length := by have := congrArg List.length hra; simpa using this
    obtain ⟨r0, hr0, hrr, hnext⟩ := adv1_turn hrp hpi hrl
    have nd1 : ND ((M, lo (mrefs rows) km) :: (Cm, W.listOf #[.int (C + cntS step ((rows.take i).map MR.pl)) tc1] kc1) :: (mled (pre ++ ⟨ra, rk, rtm, rrg, rcg, rst, rt1, rt2, rt3, rt4⟩ :: post) ++ rest)) := nd.same (by simp [mled_addr hra])
    have nd2 := nd_ins (l := []) (oI := oI) nd1 off
    have nd3 := NDperm nd2 (row_front (A := [(I9, oI), (M, lo (mrefs rows) km), (Cm, W.listOf #[.int (C + cntS step ((rows.take i).map MR.pl)) tc1] kc1)]) (rest := rest))
    have N₂ := newsSub N₁ (fun p hp => (row_front (A := [(I9, oI), (M, lo (mrefs rows) km), (Cm, W.listOf #[.int (C + cntS step ((rows.take i).map MR.pl)) tc1] kc1)]) (rest := rest)).mem_iff.mpr hp)
    dsimp only [MR.ent, MR.obj, List.cons_append, List.nil_append] at nd3 N₂
    generalize hR9 : mled pre ++ (mled post ++ rest) = R9 at nd3 N₂
    obtain ⟨⟨⟨d1, d2, d3⟩, ⟨d4, d5⟩, d6⟩, hoff⟩ := nd4 nd3
    have hbr := hb r0 (List.mem_of_getElem? hr0)
    have hcn := cntS_le step ((rows.take i).map MR.pl)
    have hcl : ((rows.take i).map MR.pl).length ≤ 1000 := by simp; omega
    generalize hcc : cntS step ((rows.take i).map MR.pl) = cc at N₁ N₂ hnext hcn
    have hrr1 : rtm = r0.tm := congrArg PR.tm hrr
    clear N₁ nd2 nd1 nd3
  case' jd =>
    rintro u news₁ h tk ⟨rs, kc1, tc1, hra, hrp, hnI⟩ F₁ N₁
    subst hnI
  repeat' ((fail_if_success (with_reducible show wpAny _ _ (exec (Stmt.For _ _ _ _ _) _) _ _ _)); first | (k_unfold; (try dsimp only)) | walk1 | (dsimp only; walk1))
  rotate_left
  · have e9 : rtm = step := (by assumption : [rtm, rrg, rcg, rst].getD (Int.toNat 0) 0 = step)
    have hct : C + (cntS step ((rows.take (i + 1)).map MR.pl) : Int) = C + cc + 1 := by
      rw [List.take_add_one, hr0]
      simp only [Option.toList, List.map_append, List.map_cons, List.map_nil, cntS_snoc, hcc]
      rw [if_pos (show r0.pl.tm = step from by show r0.tm = step; omega)]; omega
    subst hR9
    refine row_end (A := [(M, lo (mrefs rows) km), (Cm, W.listOf #[.int (C + cc + 1) _] kc1)]) (A0 := [(M, _), (Cm, _)]) (r' := ⟨ra, _, rtm, rrg, C + cc, rst, _, _, _, _⟩) (by k_asm) (by k_asm) (by rfl) (by rfl) off ?hj
    refine ⟨?hm, _, kc1, _, ?ha, ?hp, by first | (rw [hct]; done) | (rw [hct]; rfl)⟩
    case hm => intro z h1; first | rfl | (simp [h1]; done) | (simp_all; done)
    case ha => simpa using hra
    case hp => exact hnext _ (by rw [if_pos (by omega)]; rw [← hrr]; rfl)
  · have e9 : ¬ rtm = step := (by assumption : ¬ [rtm, rrg, rcg, rst].getD (Int.toNat 0) 0 = step)
    have hct : C + (cntS step ((rows.take (i + 1)).map MR.pl) : Int) = C + cc := by
      rw [List.take_add_one, hr0]
      simp only [Option.toList, List.map_append, List.map_cons, List.map_nil, cntS_snoc, hcc]
      rw [if_neg (show ¬ r0.pl.tm = step from by show ¬ r0.tm = step; omega)]; omega
    subst hR9
    refine row_end (A := [(M, lo (mrefs rows) km), (Cm, W.listOf #[.int (C + cc) _] kc1)]) (A0 := [(M, _), (Cm, _)]) (r' := ⟨ra, _, rtm, rrg, rcg, rst, _, _, _, _⟩) (by k_asm) (by k_asm) (by rfl) (by rfl) off ?hj2
    refine ⟨?hm2, _, kc1, _, ?ha2, ?hp2, by first | (rw [hct]; done) | (rw [hct]; rfl)⟩
    case hm2 => intro z h1; first | rfl | (simp [h1]; done) | (simp_all; done)
    case ha2 => simpa using hra
    case hp2 => exact hnext _ (by rw [if_neg (by omega)]; rw [← hrr])
  rw [show (mrefs rows).length = rows.length from List.length_map ..] at hrp
  have htk : (rows.take (mrefs rows).length) = rows := by rw [List.length_map, List.take_length]
  have hN3 := newsSub N₁ (n2 := (M, lo (mrefs rows) km) :: (Cm, W.listOf #[.int (C + cntS step (rows.map MR.pl)) tc1] kc1) :: (mled rs ++ rest)) (by rw [htk]; exact fun p hp => hp)
  clear N₁ htk
  rw [adv1, List.take_length, List.drop_length, List.map_nil, List.append_nil] at hrp
  have hPb : ∀ p ∈ renum step C (rows.map MR.pl), 0 ≤ p.tm ∧ p.tm ≤ 10 ^ 30 := fun p hp => by
    have h1 : p.tm ∈ (renum step C (rows.map MR.pl)).map (·.tm) := List.mem_map.mpr ⟨p, hp, rfl⟩
    rw [renum_tm] at h1
    obtain ⟨q, hq, hqe⟩ := List.mem_map.mp h1
    obtain ⟨r, hr, rfl⟩ := List.mem_map.mp hq
    rw [← hqe]; exact hb r hr
  have hPl : (renum step C (rows.map MR.pl)).length = rows.length := by rw [renum_len, List.length_map]
  generalize hPe : renum step C (rows.map MR.pl) = P at hrp hPb hPl
  generalize hCe : C + (cntS step (rows.map MR.pl) : Int) = CC at hN3
  (rename Fr _ _ _ _ => lF'')
  with_unfolding_all refine' For_invVF lF'' ?m1 ?m2 ?_
  case m1 => exact rfl
  case m2 => exact rfl
  repeat' ((fail_if_success (with_reducible show wpAny _ _ (pyIter _) _ _ _)); first | (k_unfold; (try dsimp only)) | walk1 | (dsimp only; walk1))
  k_dflt (refine' iterV1 (vs := mrefs rows) (k := km) (fun i n => ∃ rs, rs.map (·.a) = rows.map (·.a) ∧ rs.map MR.pl = (P.take i).map (shift step) ++ P.drop i ∧
    n = (M, lo (mrefs rows) km) :: (Cm, W.listOf #[.int CC tc1] kc1) :: (mled rs ++ rest)) ?lh ?lF ?lN ?lj ?lk ?lt ?ld)
  case lh => rfl
  case lF => k_asm
  case lN => k_asm
  case lj => exact ⟨rs, hra, by simp [hrp], rfl⟩
  case lk => exact fun i n ⟨_, _, _, hn⟩ => hn ▸ List.mem_cons_self ..
  case' lt =>
    clear hra hrp
    rintro i v news₁ h tk I9 oI hv ⟨rs, hra, hrp, hnI⟩ off F₁ N₁
    subst hnI
    obtain ⟨pre, r, post, hrs, hpi, hvr⟩ := rows_at hra hv
    subst hrs
    obtain ⟨ra, rk, rtm, rrg, rcg, rst, rt1, rt2, rt3, rt4⟩ := r
    dsimp only at hvr
    subst hvr
    have hrl : (pre ++ ⟨ra, rk, rtm, rrg, rcg, rst, rt1, rt2, rt3, rt4⟩ :: post).length = P.length := by have := congrArg List.length hra; rw [hPl]; simpa using this
    obtain ⟨hr0, hnext⟩ := map_turn _ hrp hpi hrl
    have nd1 : ND ((M, lo (mrefs rows) km) :: (Cm, W.listOf #[.int CC tc1] kc1) :: (mled (pre ++ ⟨ra, rk, rtm, rrg, rcg, rst, rt1, rt2, rt3, rt4⟩ :: post) ++ rest)) := nd.same (by simp [mled_addr hra])
    have nd2 := nd_ins (l := []) (oI := oI) nd1 off
    have nd3 := NDperm nd2 (row_front (A := [(I9, oI), (M, lo (mrefs rows) km), (Cm, W.listOf #[.int CC tc1] kc1)]) (rest := rest))
    have N₂ := newsSub N₁ (fun p hp => (row_front (A := [(I9, oI), (M, lo (mrefs rows) km), (Cm, W.listOf #[.int CC tc1] kc1)]) (rest := rest)).mem_iff.mpr hp)
    dsimp only [MR.ent, MR.obj, List.cons_append, List.nil_append] at nd3 N₂
    generalize hR9 : mled pre ++ (mled post ++ rest) = R9 at nd3 N₂
    obtain ⟨⟨⟨d1, d2, d3⟩, ⟨d4, d5⟩, d6⟩, hoff⟩ := nd4 nd3
    have hbr : 0 ≤ rtm ∧ rtm ≤ 10 ^ 30 := hPb _ (List.mem_of_getElem? hr0)
    clear N₁ nd2 nd1 nd3
  case' ld =>
    clear hra hrp
    rintro u news₁ h tk ⟨rs, hra, hrp, hnI⟩ F₁ N₁
    subst hnI
  k_steps
  · refine' hret _ _ _ _ (by k_asm) (by k_asm) (.inr ⟨step, rs, tc1, kc1, hS, hs0, rfl, hra, ?_, ?_⟩)
    · rw [mrefs_of hra, hCe]
    · rw [hPe, hrp, List.length_map, ← hPl, List.take_length, List.drop_length, List.append_nil]
  · have e9 : 0 < rtm := (by assumption : 0 < [rtm, rrg, rcg, rst].getD (Int.toNat 0) 0)
    subst hR9
    refine row_end (A := [(M, lo (mrefs rows) km), (Cm, W.listOf #[.int CC _] kc1)]) (A0 := [(M, _), (Cm, _)]) (r' := ⟨ra, _, rtm - step, rrg, rcg, rst, _, _, _, _⟩) (by k_asm) (by k_asm) (by rfl) (by rfl) off ?hj3
    refine ⟨?hm3, _, ?ha3, ?hp3, rfl⟩
    case hm3 => intro z h1; first | rfl | (simp [h1]; done) | (simp_all; done)
    case ha3 => simpa using hra
    case hp3 => exact hnext _ (by unfold shift; exact (if_pos e9).symm)
  · have e9 : ¬ 0 < rtm := (by assumption : ¬ 0 < [rtm, rrg, rcg, rst].getD (Int.toNat 0) 0)
    subst hR9
    refine row_end (A := [(M, lo (mrefs rows) km), (Cm, W.listOf #[.int CC _] kc1)]) (A0 := [(M, _), (Cm, _)]) (r' := ⟨ra, _, rtm, rrg, rcg, rst, _, _, _, _⟩) (by k_asm) (by k_asm) (by rfl) (by rfl) off ?hj4
    refine ⟨?hm4, _, ?ha4, ?hp4, rfl⟩
    case hm4 => intro z h1; first | rfl | (simp [h1]; done) | (simp_all; done)
    case ha4 => simpa using hra
    case hp4 => exact hnext _ (by unfold shift; exact (if_neg e9).symm)
end Mine
end

noncomputable section
set_option maxHeartbeats 4000000
namespace Mine
section
variable {prog : Program} {w : World} {A : Around} {E : Value → Shared → Prop} {s : Shared} {env : Env} {h₀ : Heap} {x : Str} {target : Expr} {body : List Stmt} {Q : Flow → Shared → Prop}
theorem iterR {r : Addr} {a b : Int} {t₀ u₀ v₀ : Tok} {n : Nat} {m : Str → Option Value} {news : List (Addr × Obj)} (J : Nat → (Str → Option Value) → List (Addr × Obj) → Prop)
    (hh : A.handled = none) (hr : IsRange s.heap r a b 1 t₀ u₀ v₀) (hsmall : Builtin.Range.small a b 1 = true) (hn : Builtin.Range.rangeSize a b 1 = (n : Int)) (F : Fr h₀ env.locals s.heap m) (N : News h₀ env.locals s.heap news) (hj : J 0 m news)
    (turn : ∀ i t m₁ news₁ h tk I oI, i < n → J i m₁ news₁ → (∀ p ∈ news₁, p.1 ≠ I) → Fr h₀ env.locals h (fun y => if y = x then some (.int (a + (i : Nat)) t) else m₁ y) → News h₀ env.locals h ((I, oI) :: news₁) →
      wpAny (model prog w) A (execs body env) (TPost h₀ env.locals I oI (J (i + 1)) Q { s with heap := h, toks := tk }) E { s with heap := h, toks := tk })
    (done : ∀ m₁ news₁ h tk, J n m₁ news₁ → Fr h₀ env.locals h m₁ → News h₀ env.locals h news₁ → Q .next { s with heap := h, toks := tk }) :
    wpAny (model prog w) A (pyIter (.ref r)) (fun it s₂ => LoopAtV prog w A h₀ env x body Q E it s₂) E s := by
  refine wpAny_pyIter_range hr hsmall ?_
  have W : Walks prog w A s.heap.objs.size [s.heap.objs.size] [s.heap.objs.size] n (fun i v => i < n ∧ ∃ t, v = .int (a + i * 1) t)
      (fun i h => IsRangeIter h s.heap.objs.size (a + (i : Nat) * 1) ((n : Int) - (i : Nat)) 1) := (Walks.range hh _ a 1 n).bound
  refine ⟨_, _, _, _, _, _, m, news, J, rfl, W, ?_, ?_, ?_, (by show IsRangeIter _ _ _ _ _; rw [hn]; simpa using Heap.get?_push_size _ rfl), F.push _, (fun p hp => ⟨Heap.get?_push_of_some _ (N p hp).1, (N p hp).2⟩), hj, ?_, ?_⟩
  · intro hm'
    exact absurd F.ns.lt ((List.mem_singleton.mp hm') ▸ Nat.lt_irrefl _)
  · intro b hb
    rw [List.mem_singleton.mp hb]
    exact next_is_new F
  · intro p hp hI
    exact absurd (Heap.lt_size (N p hp).1) ((List.mem_singleton.mp hI) ▸ Nat.lt_irrefl _)
  · rintro i v m₁ news₁ s₁ own ⟨hh', tk', rfl⟩ hin hP hJ hoff hown hat hin2 hst F₁ N₁
    obtain ⟨_, t, rfl⟩ := hP
    have e1 : a + (i : Int) * 1 = a + (i : Int) := by omega
    rw [e1] at F₁
    obtain ⟨oI, hIg⟩ : ∃ oI, hh'.get? s.heap.objs.size = some oI := ⟨_, hst⟩
    have N₁' : News h₀ env.locals hh' news₁ := fun p hp => N₁ p (List.mem_append_right _ hp)
    have hIown := hin2 _ (List.mem_singleton.mpr rfl) (next_is_new F) _ hIg
    refine wpAny_mono (turn i t m₁ news₁ hh' tk' s.heap.objs.size oI hin hJ (fun p hp => fun e => hoff p hp (List.mem_singleton.mpr e)) F₁ (fun p hp => ?_)) (fun f s₂ p => ?_) fun _ _ e => e
    · rcases List.mem_cons.mp hp with rfl | hp
      · exact N₁ _ (List.mem_append_left _ hIown)
      · exact N₁' p hp
    · have fin : TEnd h₀ env.locals s.heap.objs.size oI (J (i + 1)) { s with heap := hh', toks := tk' } s₂ → LoopStepU h₀ env.locals [s.heap.objs.size] own (J (i + 1)) { s with heap := hh', toks := tk' } .next s₂ := by
        rintro ⟨h', tk, m', news', e, F', N', hn, hm2⟩
        refine ⟨rfl, h', tk, m', news', e, F', fun p hp => ?_, fun p hp hq => hn p hp (List.mem_singleton.mp hq), hm2⟩
        rcases List.mem_append.mp hp with hp | hp
        · have h1 := List.mem_singleton.mp (hown p hp)
          have h2 := hat p hp
          rw [h1, hIg] at h2
          obtain ⟨p1, p2⟩ := p
          dsimp only at h1 h2; subst h1; cases h2
          exact N' _ (List.mem_cons_self ..)
        · exact N' p (List.mem_cons_of_mem _ hp)
      cases f with
      | ret v => exact .ret p
      | brk => exact .brk p
      | next => exact .next (fin p)
      | cont => exact .cont (fin p)
  · rintro h' tk m' news' F' N' _ hJ
    exact done m' news' h' tk hJ F' N'
theorem iterRn {r : Addr} {t₀ u₀ v₀ : Tok} {b : Int} {n : Nat} {m : Str → Option Value} {news : List (Addr × Obj)} (J : Nat → (Str → Option Value) → List (Addr × Obj) → Prop)
    (hh : A.handled = none) (hr : IsRange s.heap r 0 b 1 t₀ u₀ v₀) (hbn : b = (n : Int)) (hz : n ≤ 10 ^ 6) (F : Fr h₀ env.locals s.heap m) (N : News h₀ env.locals s.heap news) (hj : J 0 m news)
    (turn : ∀ i t m₁ news₁ h tk I oI, i < n → J i m₁ news₁ → (∀ p ∈ news₁, p.1 ≠ I) → Fr h₀ env.locals h (fun y => if y = x then some (.int (i : Nat) t) else m₁ y) → News h₀ env.locals h ((I, oI) :: news₁) →
      wpAny (model prog w) A (execs body env) (TPost h₀ env.locals I oI (J (i + 1)) Q { s with heap := h, toks := tk }) E { s with heap := h, toks := tk })
    (done : ∀ m₁ news₁ h tk, J n m₁ news₁ → Fr h₀ env.locals h m₁ → News h₀ env.locals h news₁ → Q .next { s with heap := h, toks := tk }) :
    wpAny (model prog w) A (pyIter (.ref r)) (fun it s₂ => LoopAtV prog w A h₀ env x body Q E it s₂) E s := by
  subst hbn
  refine iterR (n := n) J hh hr (small_one (by decide) (by decide) (by omega) (by omega)) (by rw [rangeSize_nat]; simp) F N hj (fun i t m₁ news₁ h tk I oI hi hJ off F₁ N₁ => ?_) done
  rw [show (0 : Int) + ((i : Nat) : Int) = (i : Int) by omega] at F₁
  exact turn i t m₁ news₁ h tk I oI hi hJ off F₁ N₁
theorem iterRn1 {r : Addr} {t₀ u₀ v₀ : Tok} {b : Int} {n : Nat} {m : Str → Option Value} {news : List (Addr × Obj)} (J : Nat → List (Addr × Obj) → Prop)
    (hh : A.handled = none) (hr : IsRange s.heap r 0 b 1 t₀ u₀ v₀) (hbn : b = (n : Int)) (hz : n ≤ 10 ^ 6) (F : Fr h₀ env.locals s.heap m) (N : News h₀ env.locals s.heap news) (hj : J 0 news)
    (turn : ∀ i t news₁ h tk I oI, i < n → J i news₁ → (∀ p ∈ news₁, p.1 ≠ I) → Fr h₀ env.locals h (fun y => if y = x then some (.int (i : Nat) t) else m y) → News h₀ env.locals h ((I, oI) :: news₁) →
      wpAny (model prog w) A (execs body env) (TPost h₀ env.locals I oI (fun m' n' => (∀ z, z ≠ x → m' z = m z) ∧ J (i + 1) n') Q { s with heap := h, toks := tk }) E { s with heap := h, toks := tk })
    (done : ∀ (u : Str → Option Value) news₁ h tk, J n news₁ → Fr h₀ env.locals h (fun y => if y = x then u y else m y) → News h₀ env.locals h news₁ → Q .next { s with heap := h, toks := tk }) :
    wpAny (model prog w) A (pyIter (.ref r)) (fun it s₂ => LoopAtV prog w A h₀ env x body Q E it s₂) E s := by
  refine iterRn (n := n) (fun i m' n' => (∀ z, z ≠ x → m' z = m z) ∧ J i n') hh hr hbn hz F N ⟨fun _ _ => rfl, hj⟩ ?_ ?_
  · rintro i t m₁ news₁ h tk I oI hi ⟨hm, hJ⟩ off F₁ N₁
    have e : (fun y => if y = x then some (Value.int (i : Nat) t) else m₁ y) = fun y => if y = x then some (Value.int (i : Nat) t) else m y := by
      funext y
      by_cases h1 : y = x
      · simp [h1]
      · simp only [if_neg h1]; exact hm y h1
    rw [e] at F₁
    exact turn i t news₁ h tk I oI hi hJ off F₁ N₁
  · rintro m₁ news₁ h tk ⟨hm, hJ⟩ F₁ N₁
    refine done m₁ news₁ h tk hJ ?_ N₁
    have e : (fun y => if y = x then m₁ y else m y) = m₁ := by
      funext y
      by_cases h1 : y = x
      · simp [h1]
      · simp only [if_neg h1]; exact (hm y h1).symm
    rw [e]; exact F₁
end
end Mine
end

noncomputable section
set_option maxHeartbeats 1000000
namespace Mine
def fr (rows : List MR) : List MR := rows.filter fun r => decide (r.tm = 0)
noncomputable def updN (f : PR → PR) : Nat → List PR → List PR
  | 0, l => l
  | _ + 1, [] => []
  | n + 1, r :: l => if r.tm = 0 then f r :: updN f n l else r :: updN f (n + 1) l
theorem pl_tm (r : MR) : r.pl.tm = r.tm := rfl
theorem upd_turn (f : PR → PR) : ∀ (rows rs : List MR) (i : Nat) (r0 : MR), rs.map (·.a) = rows.map (·.a) → rs.map MR.pl = updN f i (rows.map MR.pl) → (fr rows)[i]? = some r0 →
    ∃ pre r post, rs = pre ++ r :: post ∧ r.a = r0.a ∧ r.pl = r0.pl ∧ ∀ r' : MR, r'.pl = f r0.pl → (pre ++ r' :: post).map MR.pl = updN f (i + 1) (rows.map MR.pl)
  | [], _, i, r0, _, _, h => by simp [fr] at h
  | x :: xs, [], _, _, ha, _, _ => by simp at ha
  | x :: xs, y :: ys, i, r0, ha, hp, h => by
    simp only [List.map_cons, List.cons.injEq] at ha
    by_cases hx : x.tm = 0
    · have hf : fr (x :: xs) = x :: fr xs := by simp [fr, hx]
      rw [hf] at h
      cases i with
      | zero =>
        simp only [List.getElem?_cons_zero, Option.some.injEq] at h
        subst h
        simp only [updN, List.map_cons, List.cons.injEq] at hp
        exact ⟨[], y, ys, rfl, ha.1, hp.1, fun r' hr' => by simp [updN, pl_tm, hx, hr', hp.2]⟩
      | succ i =>
        simp only [List.getElem?_cons_succ] at h
        simp only [updN, List.map_cons, pl_tm, hx, if_true, List.cons.injEq] at hp
        obtain ⟨pre, r, post, e1, e2, e3, e4⟩ := upd_turn f xs ys i r0 ha.2 hp.2 h
        exact ⟨y :: pre, r, post, by rw [e1]; rfl, e2, e3, fun r' hr' => by
          rw [List.cons_append, List.map_cons, e4 r' hr']; simp [updN, pl_tm, hx, hp.1]⟩
    · have hf : fr (x :: xs) = fr xs := by simp [fr, hx]
      rw [hf] at h
      have hp' : y.pl = x.pl ∧ ys.map MR.pl = updN f i (xs.map MR.pl) := by
        cases i with
        | zero => simpa [updN] using hp
        | succ i => simpa [updN, pl_tm, hx] using hp
      obtain ⟨pre, r, post, e1, e2, e3, e4⟩ := upd_turn f xs ys i r0 ha.2 hp'.2 h
      exact ⟨y :: pre, r, post, by rw [e1]; rfl, e2, e3, fun r' hr' => by
        rw [List.cons_append, List.map_cons, e4 r' hr']; simp [updN, pl_tm, hx, hp'.1]⟩
theorem upd_all (f : PR → PR) (hf : ∀ r : PR, r.tm ≠ 0 → f r = r) : ∀ rows : List MR, updN f (fr rows).length (rows.map MR.pl) = (rows.map MR.pl).map f
  | [] => rfl
  | x :: xs => by
    by_cases hx : x.tm = 0
    · have hf' : fr (x :: xs) = x :: fr xs := by simp [fr, hx]
      rw [hf', List.length_cons, List.map_cons]
      simp only [updN, pl_tm, hx, if_true, List.map_cons]
      rw [upd_all f hf xs]
    · have hf' : fr (x :: xs) = fr xs := by simp [fr, hx]
      have ih := upd_all f hf xs
      rw [hf', List.map_cons, List.map_cons, hf x.pl hx, ← ih]
      cases (fr xs).length with
      | zero => simp [updN]
      | succ n => simp [updN, pl_tm, hx]
def actv (least : Int) (p : PR) : PR := if p.tm = 0 ∧ p.rg = least then { p with rg := 0 } else p
theorem actv_tm (least : Int) (p : PR) : (actv least p).tm = p.tm := by unfold actv; split <;> rfl
theorem actv_id (least : Int) (p : PR) (h : p.tm ≠ 0) : actv least p = p := by unfold actv; rw [if_neg]; exact fun q => h q.1
theorem fr_same (f : PR → PR) (hf : ∀ r, (f r).tm = r.tm) : ∀ {rows rs : List MR}, rs.map (·.a) = rows.map (·.a) → rs.map MR.pl = (rows.map MR.pl).map f → (fr rs).map (·.a) = (fr rows).map (·.a)
  | [], [], _, _ => rfl
  | [], _ :: _, h, _ => by simp at h
  | _ :: _, [], h, _ => by simp at h
  | x :: xs, y :: ys, ha, hp => by
    simp only [List.map_cons, List.cons.injEq] at ha hp
    have ih := fr_same f hf ha.2 hp.2
    have ht : y.tm = x.tm := by have := congrArg PR.tm hp.1; rw [hf] at this; exact this
    unfold fr at *
    by_cases hx : x.tm = 0
    · simp [hx, ht, ha.1, ih]
    · simp [hx, ht, ih]
/-- the walked list's own address in the word -/
theorem iterV1L {prog : Program} {w : World} {A : Around} {E : Value → Shared → Prop} {s : Shared} {env : Env} {h₀ : Heap} {x : Str} {body : List Stmt} {Q : Flow → Shared → Prop} {l : Addr} {vs : List Value} {k : Nat} {m : Str → Option Value} {news : List (Addr × Obj)} (J : Addr → Nat → List (Addr × Obj) → Prop)
    (hh : A.handled = none) (F : Fr h₀ env.locals s.heap m) (N : News h₀ env.locals s.heap news) (hj : J l 0 news)
    (hkeep : ∀ i news', J l i news' → (l, W.listOf vs.toArray k) ∈ news')
    (turn : ∀ i v news₁ h tk I oI, vs[i]? = some v → J l i news₁ → (∀ p ∈ news₁, p.1 ≠ I) → Fr h₀ env.locals h (fun y => if y = x then some v else m y) → News h₀ env.locals h ((I, oI) :: news₁) →
      wpAny (model prog w) A (execs body env) (TPost h₀ env.locals I oI (fun m' n' => (∀ z, z ≠ x → m' z = m z) ∧ J l (i + 1) n') Q { s with heap := h, toks := tk }) E { s with heap := h, toks := tk })
    (done : ∀ (u : Str → Option Value) news₁ h tk, J l vs.length news₁ → Fr h₀ env.locals h (fun y => if y = x then u y else m y) → News h₀ env.locals h news₁ → Q .next { s with heap := h, toks := tk }) :
    wpAny (model prog w) A (pyIter (.ref l)) (fun it s₂ => LoopAtV prog w A h₀ env x body Q E it s₂) E s := iterV1 (J l) hh F N hj hkeep turn done
theorem off1_ne {D : Addr} : ∀ {l : List (Addr × Obj)}, LCg.Off1 D l → ∀ p ∈ l, p.1 ≠ D
  | [], _, _, h => by simp at h
  | x :: r, h, p, hp => by
    rcases List.mem_cons.mp hp with rfl | hp
    · exact h.1
    · exact off1_ne h.2 p hp
end Mine
end

noncomputable section
set_option maxHeartbeats 1000000
namespace Mine
theorem cut_at (p q : List Value) (y : Value) : kl_cut (p ++ y :: q) p.length = some (p, y, q) := by
  induction p with
  | nil => rfl
  | cons x p ih => rw [List.cons_append, List.length_cons]; unfold kl_cut; rw [ih]
section
variable {prog : Program} {w : World} {A : Around} {E : Value → Shared → Prop} {s : Shared} {h₀ : Heap} {L : Addr} {m : Str → Option Value}
theorem pop_at {I D : Addr} {oI : Obj} {p q : List Value} {y : Value} {n : Nat} {i : Int} {u : Tok} {R : List (Addr × Obj)} {Q : Value → Shared → Prop} (F : Fr h₀ L s.heap m) (N : News h₀ L s.heap ((I, oI) :: (D, lo (p ++ y :: q) n) :: R))
    (hI : I ≠ D) (hR : ∀ x ∈ R, x.1 ≠ D) (hi : i = (p.length : Int)) (hz : (p ++ y :: q).length ≤ 1000) (h : ∀ h', Fr h₀ L h' m → News h₀ L h' ((I, oI) :: (D, lo (p ++ q) (n + 1)) :: R) → Q y { s with heap := h' }) :
    wpAny (model prog w) A (call (.builtin "list.pop") [.ref D, .int i u]) Q E s := by
  subst hi
  have hlt : p.length < (p ++ y :: q).length := by simp
  refine kl_popAt (k := p.length) (n := n) F N ?_ ?_ (cut_at p q y) ?_ ?_ h
  · unfold Builtin.List.listFitsIndex; rw [Bool.and_eq_true, decide_eq_true_eq, decide_eq_true_eq]; omega
  · unfold seqIndex?
    rw [if_neg (show ¬ ((p.length : Int) < 0) by omega), if_pos]
    · simp
    · rw [Bool.and_eq_true, decide_eq_true_eq, decide_eq_true_eq, List.size_toArray]; omega
  · exact .tail hI (.head hR)
  · show (p ++ y :: q).length ≤ sizeLine; exact kdl_size (by omega)
theorem getItem_at {l : Addr} {items : List Value} {k : Nat} {i : Nat} {u : Tok} {x : Value} {value slice : Expr} {Q : Value → Shared → Prop} {news : List (Addr × Obj)} (N : News h₀ L s.heap news) (hm : (l, lo items k) ∈ news) (hi : i ≤ 1000) (hx : items[i]? = some x) (h : Q x s)
    (hs : subscripted slice false (.ref l) (.int (i : Int) u) = operate [.ref l, .int (i : Int) u] (getItem (.ref l) (.int (i : Int) u)) := by with_unfolding_all rfl) (hg : ∀ r, letTemporaryGo value (.ref l) r = pure () := by intro _; with_unfolding_all rfl) :
    wpAny (model prog w) A (subscriptTail value slice (.ref l) (.int (i : Int) u)) Q E s := item_list (News.isList N hm) (by omega) (by omega) (by simpa using hx) h hs hg
end
def IsMin (ts : List Int) (x : Int) : Prop := x ∈ ts ∧ ∀ a ∈ ts, x ≤ a
/-- what _law_taken does to a model that has a row of the present -/
structure Taken (rows : List MR) (least : Int) (rs pre : List MR) (r : MR) (post : List MR) : Prop where
  hleast : IsMin ((fr rows).map (·.rg)) least
  addr : rs.map (·.a) = rows.map (·.a)
  act : rs.map MR.pl = (rows.map MR.pl).map (actv least)
  split : rs = pre ++ r :: post
  first : ∀ x ∈ pre, x.cg ≠ r.cg
  found : IsMin (((fr rs).filter fun r => decide (r.rg = 0)).map (·.cg)) r.cg
theorem act_nonempty {rows rs : List MR} {least : Int} (ha : rs.map MR.pl = (rows.map MR.pl).map (actv least)) (hl : least ∈ (fr rows).map (·.rg)) : 0 < (((fr rs).filter fun r => decide (r.rg = 0)).map (·.cg)).length := by
  obtain ⟨r, hr, rfl⟩ := List.mem_map.mp hl
  obtain ⟨hr1, hr2⟩ := List.mem_filter.mp hr
  have h1 : actv r.rg r.pl ∈ rs.map MR.pl := by rw [ha]; exact List.mem_map.mpr ⟨_, List.mem_map.mpr ⟨r, hr1, rfl⟩, rfl⟩
  obtain ⟨x, hx, hxe⟩ := List.mem_map.mp h1
  have h2 : actv r.rg r.pl = { r.pl with rg := 0 } := by unfold actv; exact if_pos ⟨of_decide_eq_true hr2, rfl⟩
  rw [h2] at hxe
  have h3 : x.tm = r.tm := congrArg PR.tm hxe
  have h4 : x.rg = 0 := congrArg PR.rg hxe
  rw [List.length_map]
  refine List.length_pos_of_mem (a := x) (List.mem_filter.mpr ⟨List.mem_filter.mpr ⟨hx, ?_⟩, decide_eq_true h4⟩)
  rw [h3]; exact hr2
end Mine
end

noncomputable section
set_option maxHeartbeats 1000000
namespace Mine
theorem fillM4 : PySem.Challenge.rw_nn0294_01.Holds → hd.heap_39 = hd.heap_39 := by
  k_fill
  intro _; rfl
local macro_rules | `(tactic| k_ne) => `(tactic| ((try dsimp only); first | assumption | (refine Ne.symm ?_; assumption) | (refine neN ?_; (try dsimp only); omega)))
local macro_rules | `(tactic| lcg_sub) => `(tactic| (intro p hp; k_ownIn))
local macro_rules | `(tactic| k_mem) => `(tactic| assumption)
local macro_rules | `(tactic| walk_at "pyIter ref") => `(tactic| k_extra "pyIter ref")
local macro_rules | `(tactic| walk_at "exec Assign cons ListComp") => `(tactic| (k_here; k_dflt (refine LCt.Assign_ListComp_T (F₀ := by k_asm) (by rfl) (by with_unfolding_all rfl) (by with_unfolding_all rfl) (by decide) (by rfl) (by decide) (by rfl) (by rfl) (by rfl) ?_)))
local macro_rules | `(tactic| walk_at "eval ListComp") => `(tactic| (k_here; k_dflt (first | (with_reducible show wpAny _ _ (eval (Expr.ListComp _ [⟨Expr.Name _ _, _, [_], 0⟩] _ _) _) _ _ _); refine LCt.ListComp_T (F₀ := by k_asm) (by with_unfolding_all rfl) (by decide) (by rfl) (by decide) (by rfl) ?_ | refine LCg.ListComp_U (F₀ := by k_asm) (by with_unfolding_all rfl) (by decide) (by rfl) (by decide) (by rfl) ?_)))
theorem law_taken (w : World) (M : Addr) (km : Nat) (rows : List MR) (rest : List (Addr × Obj)) (hz : rows.length ≤ 1000)
   (nd : ND ((M, lo (mrefs rows) km) :: (mled rows ++ rest))) (hb0 : ∀ r ∈ rows, 0 ≤ r.tm ∧ r.tm ≤ 10 ^ 30) :
   Ctr w 1 96 [.ref M] ((M, lo (mrefs rows) km) :: (mled rows ++ rest)) (fun v news' =>
      (fr rows = [] ∧ v = .none ∧ news' = (M, lo (mrefs rows) km) :: (mled rows ++ rest)) ∨
      ∃ least rs pre r post t, Taken rows least rs pre r post ∧ v = .int r.st t ∧ news' = (M, lo (mrefs (pre ++ post)) (km + 1)) :: (mled (pre ++ post) ++ rest)) := by
  k_with_none
  w_top off
  intro dp un gd cn cs a ccd cl outer A₀ base h₀ L m s mean mg mb Q E B F X N T hk hd hu hret
  generalize hR : mled rows ++ rest = R at N hret
  refine wpAny_call ?_
  k_dflt ktr_enter
  repeat' ((fail_if_success (with_reducible show LCt.CompSrcT _ _ _ _ _ _ _ _ _ _ _ _ _ _ _ _)); first | (k_unfold; (try dsimp only)) | walk1 | (dsimp only; walk1))
  k_dflt (refine LCt.CompSrcT.ledger (by rfl) (by k_asm) (by k_asm) (by k_mem) (by rw [List.size_toArray, List.length_map]; exact kdl_size (by omega)) ?_)
  intro g8
  refine compT (fun i ys => ys = mrefs (fr (rows.take i))) ?cS ?cj ?ct ?cf
  case cS => exact .inr ⟨_, List.mem_cons_self .., rfl, _, rfl⟩
  case cj => rfl
  case' ct =>
    intro i ys v I oI C oC D m₂ h tk E' hi hJ hP hC hx F8 N8 off ne
    have hP' : (mrefs rows)[i]? = some v := by simpa using hP
    obtain ⟨r, hr, hrv⟩ : ∃ r, rows[i]? = some r ∧ Value.ref r.a = v := by simpa [List.getElem?_map] using hP'
    subst hrv
    have hmr : (r.a, W.listOf #[.int r.tm r.t1, .int r.rg r.t2, .int r.cg r.t3, .int r.st r.t4] r.k) ∈ R := by
      rw [← hR]; exact List.mem_append_left _ (List.mem_map.mpr ⟨r, List.mem_of_getElem? hr, rfl⟩)
    have hst : r.tm = 0 → ys ++ [.ref r.a] = mrefs (fr (rows.take (i + 1))) := fun hp => by
      rw [List.take_add_one, hr, hJ]
      simp [fr, hp]
    have hsk : ¬ r.tm = 0 → ys = mrefs (fr (rows.take (i + 1))) := fun hp => by
      rw [List.take_add_one, hr, hJ]
      simp [fr, hp]
  case' cf =>
    intro ys hJ
    rw [List.size_toArray, List.length_map, List.take_length] at hJ
    subst hJ
  k_with "subscriptTail" =>
    with_reducible show wpAny _ _ (subscriptTail _ _ (Value.ref (MR.a r)) (Value.int _ _)) _ _ _
    k_dflt (first
      | ((with_reducible show wpAny _ _ (subscriptTail _ _ (Value.ref _) (Value.int 0 _)) _ _ _); refine row_sub0 (by k_asm) (by k_mem) ?_)
      | ((with_reducible show wpAny _ _ (subscriptTail _ _ (Value.ref _) (Value.int 1 _)) _ _ _); refine row_sub1 (by k_asm) (by k_mem) ?_)
      | ((with_reducible show wpAny _ _ (subscriptTail _ _ (Value.ref _) (Value.int 2 _)) _ _ _); refine row_sub2 (by k_asm) (by k_mem) ?_)
      | ((with_reducible show wpAny _ _ (subscriptTail _ _ (Value.ref _) (Value.int 3 _)) _ _ _); refine row_sub3 (by k_asm) (by k_mem) ?_))
  k_with "compareOp Eq ref ref" =>
    with_reducible show wpAny _ _ (compareOp .Eq (Value.ref _) (Value.ref _)) _ _ _
    k_dflt (refine eq_nil (News.isList (items := (mrefs (fr rows)).toArray) (by k_asm) (by first | exact List.mem_cons_of_mem _ (List.mem_cons_self ..) | k_mem)) (News.isList (by k_asm) (List.mem_cons_self ..)) (by ktr_units) ?_)
    rw [show (mrefs (fr rows)).toArray.size = (fr rows).length by simp]
  repeat' ((fail_if_success (with_reducible show LCg.CompSrc _ _ _ _ _ _ _ _ _ _ _ _ _ _)); first | (k_unfold; (try dsimp only)) | walk1 | (dsimp only; walk1))
  · refine' hret _ _ _ _ (by k_asm) (newsSub (by k_asm) (n2 := (M, lo (mrefs rows) km) :: R) (by lcg_sub)) (.inl ⟨?_, rfl, rfl⟩)
    exact List.length_eq_zero_iff.mp (by assumption)
  rotate_left
  · exact CEnd.intro (by k_asm) (by k_asm) (hst (by assumption))
  · exact CEnd.intro (by k_asm) (by k_asm) (hsk (by assumption))
  have hfne : 0 < (fr rows).length := Nat.pos_of_ne_zero (by assumption)
  k_dflt (refine LCg.CompSrc.ledger (its := (mrefs (fr rows)).toArray) (by rfl) (by k_asm) (by k_asm) (by exact List.mem_cons_of_mem _ (List.mem_cons_self ..)) (by rw [List.size_toArray, List.length_map]; exact kdl_size (Nat.le_trans (List.length_filter_le ..) (by omega))) ?_)
  intro g9
  refine compU (fun i ys => IntsAre ys (((fr rows).take i).map (·.rg))) ?dS ?dj ?dt ?df
  case dS => exact .inr ⟨_, List.mem_cons_of_mem _ (List.mem_cons_self ..), rfl, _, rfl⟩
  case dj => exact IntsAre.nil
  case' dt =>
    intro i ys v I oI C oC D m₂ h tk E' hi hJ hP hC hx F8 N8 off ne
    have hP' : (mrefs (fr rows))[i]? = some v := by simpa using hP
    obtain ⟨r, hr, hrv⟩ : ∃ r, (fr rows)[i]? = some r ∧ Value.ref r.a = v := by simpa [List.getElem?_map] using hP'
    subst hrv
    have hmr : (r.a, W.listOf #[.int r.tm r.t1, .int r.rg r.t2, .int r.cg r.t3, .int r.st r.t4] r.k) ∈ R := by
      rw [← hR]; exact List.mem_append_left _ (List.mem_map.mpr ⟨r, (List.mem_filter.mp (List.mem_of_getElem? hr)).1, rfl⟩)
    have hst : ∀ t, IntsAre (ys ++ [.int r.rg t]) (((fr rows).take (i + 1)).map (·.rg)) := fun t => by
      rw [List.take_add_one, hr]
      simp only [Option.toList, List.map_append, List.map_cons, List.map_nil]
      exact hJ.append (.cons _ _ .nil)
  case' df =>
    intro ys hJ
    rw [List.size_toArray, List.length_map, List.take_length] at hJ
  k_with "call builtin:min" =>
    with_reducible show wpAny _ _ (call (Value.builtin "min") [Value.ref _]) _ _ _
    k_dflt (refine kso_min (by k_asm) (by k_asm) (News.isList (items := ys.toArray) (by k_asm) (by exact List.mem_cons_self ..)) hJ (by rw [List.length_map]; exact hfne) (by rfl) ?_)
    intro h9 least t9 tk9 F9 N9 hM hM2
  repeat' ((fail_if_success (with_reducible show wpAny _ _ (exec (Stmt.For _ _ _ _ _) _) _ _ _)); first | (k_unfold; (try dsimp only)) | walk1 | (dsimp only; walk1))
  rotate_left
  · exact CEnd.intro (by k_asm) (by k_asm) (hst _)
  (rename _ ∈ List.map _ (fr rows) => hM)
  (rename ∀ a, a ∈ List.map _ (fr rows) → _ ≤ a => hM2)
  (rename Int => least)
  (rename M ≠ _ ∧ LCg.Off1 _ R => ho1)
  (rename Fr _ _ _ _ => lF')
  have hfl : (fr rows).length ≤ 1000 := Nat.le_trans (List.length_filter_le ..) hz
  with_unfolding_all refine' For_invVF lF' ?k1 ?k2 ?_
  case k1 => exact rfl
  case k2 => exact rfl
  repeat' ((fail_if_success (with_reducible show wpAny _ _ (pyIter _) _ _ _)); first | (k_unfold; (try dsimp only)) | walk1 | (dsimp only; walk1))
  k_dflt (refine' iterV1L (vs := mrefs (fr rows)) (k := (mrefs (fr rows)).length) (fun D i n => ∃ rs, rs.map (·.a) = rows.map (·.a) ∧ rs.map MR.pl = updN (actv least) i (rows.map MR.pl) ∧
    n = (D, W.listOf (mrefs (fr rows)).toArray (mrefs (fr rows)).length) :: (M, lo (mrefs rows) km) :: (mled rs ++ rest) ∧ ND n) ?jh ?jF ?jN ?jj ?jk ?jt ?jd)
  case jh => rfl
  case jF => k_asm
  case jj =>
    refine ⟨rows, rfl, by simp [updN], rfl, nd_ins (l := []) nd ?_⟩
    rw [hR]
    intro p hp
    rcases List.mem_cons.mp hp with h | h
    · rw [h]; exact ho1.1
    · exact off1_ne ho1.2 p h
  case jN => rw [hR]; exact newsSub (by k_asm) (by lcg_sub)
  case jk => exact fun i n ⟨_, _, _, hn, _⟩ => hn ▸ List.mem_cons_self ..
  case' jt =>
    rintro i v news₁ h tk I9 oI hv ⟨rs, hra, hrp, hnI, ndI⟩ off F₁ N₁
    subst hnI
    obtain ⟨r0, hr0, hrv⟩ : ∃ r, (fr rows)[i]? = some r ∧ Value.ref r.a = v := by simpa [List.getElem?_map] using hv
    subst hrv
    obtain ⟨pre, r, post, hrs, hra0, hrp0, hnext⟩ := upd_turn _ rows rs i r0 hra hrp hr0
    subst hrs
    obtain ⟨ra, rk, rtm, rrg, rcg, rst, rt1, rt2, rt3, rt4⟩ := r
    dsimp only at hra0 hrp0
    have htm0 : rtm = 0 := by
      have h1 : rtm = r0.tm := congrArg PR.tm hrp0
      rw [h1]; exact of_decide_eq_true (List.mem_filter.mp (List.mem_of_getElem? hr0)).2
    rw [← hra0] at F₁
    have nd2 := nd_ins (l := []) (oI := oI) ndI off
    have nd3 := NDperm nd2 (row_front (A := [(I9, oI), (_, _), (M, lo (mrefs rows) km)]) (rest := rest))
    have N₂ := newsSub N₁ (fun p hp => (row_front (A := [(I9, oI), (_, _), (M, lo (mrefs rows) km)]) (rest := rest)).mem_iff.mpr hp)
    dsimp only [MR.ent, MR.obj, List.cons_append, List.nil_append] at nd3 N₂
    generalize hR9 : mled pre ++ (mled post ++ rest) = R9 at nd3 N₂
    obtain ⟨⟨⟨d1, d2, d3⟩, ⟨d4, d5⟩, d6⟩, hoff⟩ := nd4 nd3
    clear N₁ nd2 nd3
  case' jd =>
    rintro u news₁ h tk ⟨rs, hra, hrp, hnI, ndI⟩ F₁ N₁
    subst hnI
    rw [List.length_map, upd_all _ (actv_id least)] at hrp
    have hfa := fr_same _ (actv_tm least) hra hrp
    rw [← mrefs_of hfa] at N₁ ndI
  repeat' ((fail_if_success (with_reducible show LCt.CompSrcT _ _ _ _ _ _ _ _ _ _ _ _ _ _ _)); first | (k_unfold; (try dsimp only)) | walk1 | (dsimp only; walk1))
  rotate_left
  · have e9 : rrg = least := (by assumption : [rtm, rrg, rcg, rst].getD (Int.toNat 1) 0 = least)
    subst hR9
    refine row_end (A := [(_, _), (M, lo (mrefs rows) km)]) (A0 := [(_, _), (M, _)]) (r' := ⟨ra, _, rtm, 0, rcg, rst, _, _, _, _⟩) (by k_asm) (by k_asm) (by rfl) (by rfl) off ?hj3
    refine ⟨?hm3, _, ?ha3, ?hp3, rfl, ?hd3⟩
    case hm3 => intro z h1; first | rfl | (simp [h1]; done) | (simp_all; done)
    case ha3 => simpa using hra
    case hp3 =>
      refine hnext _ ?_
      rw [← hrp0]; unfold actv; exact (if_pos ⟨htm0, e9⟩).symm
    case hd3 => exact ndI.same (by simp [mled, MR.ent])
  · have e9 : ¬ rrg = least := (by assumption : ¬ [rtm, rrg, rcg, rst].getD (Int.toNat 1) 0 = least)
    subst hR9
    refine row_end (A := [(_, _), (M, lo (mrefs rows) km)]) (A0 := [(_, _), (M, _)]) (r' := ⟨ra, _, rtm, rrg, rcg, rst, _, _, _, _⟩) (by k_asm) (by k_asm) (by rfl) (by rfl) off ?hj4
    refine ⟨?hm4, _, ?ha4, ?hp4, rfl, ?hd4⟩
    case hm4 => intro z h1; first | rfl | (simp [h1]; done) | (simp_all; done)
    case ha4 => simpa using hra
    case hp4 =>
      refine hnext _ ?_
      rw [← hrp0]; unfold actv; exact (if_neg (fun q => e9 q.2)).symm
    case hd4 => exact ndI.same (by simp [mled, MR.ent])
  have hfl2 : (fr rs).length = (fr rows).length := by have := congrArg List.length hfa; simpa using this
  generalize hR2 : mled rs ++ rest = R2 at N₁ ndI
  k_dflt (refine LCt.CompSrcT.ledger (its := (mrefs (fr rs)).toArray) (by rfl) (by k_asm) (by k_asm) (by exact List.mem_cons_self ..) (by rw [List.size_toArray, List.length_map]; exact kdl_size (by omega)) ?_)
  intro g10
  refine compT (fun i ys => IntsAre ys ((((fr rs).take i).filter fun r => decide (r.rg = 0)).map (·.cg))) ?eS ?ej ?et ?ef
  case eS => exact .inr ⟨_, List.mem_cons_self .., rfl, _, rfl⟩
  case ej => exact IntsAre.nil
  case' et =>
    intro i ys v I oI C oC D m₂ h tk E' hi hJ hP hC hx F8 N8 off ne
    have hP' : (mrefs (fr rs))[i]? = some v := by simpa using hP
    obtain ⟨r, hr, hrv⟩ : ∃ r, (fr rs)[i]? = some r ∧ Value.ref r.a = v := by simpa [List.getElem?_map] using hP'
    subst hrv
    have hmr : (r.a, W.listOf #[.int r.tm r.t1, .int r.rg r.t2, .int r.cg r.t3, .int r.st r.t4] r.k) ∈ R2 := by
      rw [← hR2]; exact List.mem_append_left _ (List.mem_map.mpr ⟨r, (List.mem_filter.mp (List.mem_of_getElem? hr)).1, rfl⟩)
    have hst : r.rg = 0 → ∀ t, IntsAre (ys ++ [.int r.cg t]) ((((fr rs).take (i + 1)).filter fun r => decide (r.rg = 0)).map (·.cg)) := fun hp t => by
      rw [List.take_add_one, hr]
      simp only [Option.toList, List.filter_append, List.filter_cons, List.filter_nil, decide_eq_true hp, if_true, List.map_append, List.map_cons, List.map_nil]
      exact hJ.append (.cons _ _ .nil)
    have hsk : ¬ r.rg = 0 → IntsAre ys ((((fr rs).take (i + 1)).filter fun r => decide (r.rg = 0)).map (·.cg)) := fun hp => by
      rw [List.take_add_one, hr]
      simp only [Option.toList, List.filter_append, List.filter_cons, List.filter_nil, decide_eq_false hp, Bool.false_eq_true, if_false, List.append_nil]
      exact hJ
  case' ef =>
    intro ys hJ
    rw [List.size_toArray, List.length_map, List.take_length] at hJ
    have hne0 : 0 < (((fr rs).filter fun r => decide (r.rg = 0)).map (·.cg)).length := act_nonempty hrp hM
  k_with "subscriptTail" =>
    with_reducible show wpAny _ _ (subscriptTail _ _ (Value.ref (MR.a r)) (Value.int _ _)) _ _ _
    k_dflt (first
      | ((with_reducible show wpAny _ _ (subscriptTail _ _ (Value.ref _) (Value.int 0 _)) _ _ _); refine row_sub0 (by k_asm) (by k_mem) ?_)
      | ((with_reducible show wpAny _ _ (subscriptTail _ _ (Value.ref _) (Value.int 1 _)) _ _ _); refine row_sub1 (by k_asm) (by k_mem) ?_)
      | ((with_reducible show wpAny _ _ (subscriptTail _ _ (Value.ref _) (Value.int 2 _)) _ _ _); refine row_sub2 (by k_asm) (by k_mem) ?_)
      | ((with_reducible show wpAny _ _ (subscriptTail _ _ (Value.ref _) (Value.int 3 _)) _ _ _); refine row_sub3 (by k_asm) (by k_mem) ?_))
  repeat' ((fail_if_success (with_reducible show wpAny _ _ (exec (Stmt.For _ _ _ _ _) _) _ _ _)); first | (k_unfold; (try dsimp only)) | walk1 | (dsimp only; walk1))
  rotate_left
  · exact CEnd.intro (by k_asm) (by k_asm) (hst (by assumption) _)
  · exact CEnd.intro (by k_asm) (by k_asm) (hsk (by assumption))
  (rename _ ∈ List.map _ (List.filter _ (fr rs)) => hG)
  (rename ∀ a, a ∈ List.map _ (List.filter _ (fr rs)) → _ ≤ a => hG2)
  (rename Int => found)
  k_with "call builtin:len" =>
    with_reducible show wpAny _ _ (call (Value.builtin "len") [Value.ref M]) _ _ _
    k_dflt (refine len_list (News.isList (items := (mrefs rows).toArray) (by k_asm) (by exact List.mem_cons_of_mem _ (List.mem_cons_of_mem _ (List.mem_cons_self ..)))) (by rw [List.size_toArray, List.length_map]; omega) ?_)
    rw [List.size_toArray, List.length_map]
  (rename Fr _ _ _ _ => lF')
  with_unfolding_all refine' For_invVF lF' ?kk1 ?kk2 ?_
  case kk1 => exact rfl
  case kk2 => exact rfl
  repeat' ((fail_if_success (with_reducible show wpAny _ _ (pyIter _) _ _ _)); first | (k_unfold; (try dsimp only)) | walk1 | (dsimp only; walk1))
  (rename Fr _ _ _ _ => Fz)
  (rename News _ _ _ _ => Nz)
  (rename IsRange _ _ _ _ _ _ _ _ => hrz)
  have hrl : rs.length = rows.length := by have := congrArg List.length hra; simpa using this
  have ndM : ND ((M, lo (mrefs rows) km) :: R2) := (List.nodup_cons.mp ndI).2
  k_dflt (refine' iterRn1 (n := rows.length) (fun i n => n = (M, lo (mrefs rs) km) :: R2 ∧ ∀ x ∈ rs.take i, x.cg ≠ found) ?zh hrz ?zb ?zz ?zF ?zN ?zj ?zt ?zd)
  case zh => rfl
  case zb => rfl
  case zz => omega
  case zF => exact Fz
  case zj => exact ⟨rfl, by simp⟩
  case zN => rw [mrefs_of hra]; exact newsSub Nz (by intro p hp; exact List.mem_cons_of_mem _ (List.mem_cons_of_mem _ hp))
  case zd =>
    rintro u news₁ h tk ⟨hnI, hx⟩ F₁ N₁
    exfalso
    obtain ⟨r, hr, hrc⟩ := List.mem_map.mp hG
    rw [← hrl, List.take_length] at hx
    exact hx r (List.mem_filter.mp (List.mem_filter.mp hr).1).1 hrc
  rintro i t news₁ h tk I9 oI hi ⟨hnI, hx⟩ off F₁ N₁
  subst hnI
  have hi' : i < rs.length := by omega
  obtain ⟨pre, r, post, hrs, hpi⟩ : ∃ pre r post, rs = pre ++ r :: post ∧ pre.length = i :=
    ⟨rs.take i, rs[i], rs.drop (i + 1), by rw [← List.drop_eq_getElem_cons hi', List.take_append_drop], by simp; omega⟩
  have hmr : (r.a, W.listOf #[.int r.tm r.t1, .int r.rg r.t2, .int r.cg r.t3, .int r.st r.t4] r.k) ∈ R2 := by
    rw [← hR2, hrs]; exact List.mem_append_left _ (List.mem_map.mpr ⟨r, by simp, rfl⟩)
  have hmq : mrefs rs = mrefs pre ++ .ref r.a :: mrefs post := by rw [hrs]; simp
  rw [hmq] at N₁ off
  have hpi2 : (mrefs pre).length = i := by rw [List.length_map, hpi]
  have hit : (mrefs pre ++ .ref r.a :: mrefs post)[i]? = some (.ref r.a) := by rw [← hpi2]; simp
  have hlz : (mrefs pre ++ Value.ref r.a :: mrefs post).length ≤ 1000 := by rw [← hmq, List.length_map]; omega
  have hIM : I9 ≠ M := Ne.symm (off _ (List.mem_cons_self ..))
  have hRM : ∀ x ∈ R2, x.1 ≠ M := fun x hx e => by
    have := (List.nodup_cons.mp ndM).1
    exact this (e ▸ List.mem_map.mpr ⟨x, hx, rfl⟩)
  k_with "subscriptTail" =>
    with_reducible show wpAny _ _ (subscriptTail _ _ (Value.ref M) (Value.int _ _)) _ _ _
    k_dflt (refine getItem_at (items := mrefs pre ++ .ref r.a :: mrefs post) (by k_asm) (by exact List.mem_cons_of_mem _ (List.mem_cons_self ..)) (by omega) hit ?_)
  k_with "subscriptTail" =>
    with_reducible show wpAny _ _ (subscriptTail _ _ (Value.ref (MR.a r)) (Value.int _ _)) _ _ _
    k_dflt (first
      | ((with_reducible show wpAny _ _ (subscriptTail _ _ (Value.ref _) (Value.int 2 _)) _ _ _); refine row_sub2 (by k_asm) (List.mem_cons_of_mem _ (List.mem_cons_of_mem _ hmr)) ?_)
      | ((with_reducible show wpAny _ _ (subscriptTail _ _ (Value.ref _) (Value.int 3 _)) _ _ _); refine row_sub3 (by k_asm) (List.mem_cons_of_mem _ (List.mem_cons_of_mem _ hmr)) ?_))
  k_with "getMethod ref" =>
    with_reducible show wpAny _ _ (getMethod (Value.ref M) (PySem.Str.ofString "pop") _) _ _ _
    k_dflt (refine kl_method (its := (mrefs pre ++ .ref r.a :: mrefs post).toArray) (n := km) (by k_asm) (by exact List.mem_cons_of_mem _ (List.mem_cons_self ..)) PySem.F.slot_list_pop PySem.F.type_list_pop ?_)
  k_with "call builtin:list.pop" =>
    with_reducible show wpAny _ _ (call (Value.builtin "list.pop") [Value.ref M, Value.int _ _]) _ _ _
    k_dflt (refine pop_at (p := mrefs pre) (q := mrefs post) (n := km) (by k_asm) (by k_asm) hIM hRM (by rw [hpi2]) hlz ?_)
    intro h9 F9 N9
  k_steps
  · dsimp only [TPost]
    k_steps
    have hcg : r.cg = found := by assumption
    refine' hret _ ((M, lo (mrefs (pre ++ post)) (km + 1)) :: (mled (pre ++ post) ++ rest)) _ _ (by k_asm) ?_ (.inr ⟨least, rs, pre, r, post, _, ⟨⟨hM, hM2⟩, hra, hrp, hrs, ?_, ?_⟩, rfl, rfl⟩)
    · (with_reducible rename News _ _ _ _ => NN)
      refine newsSub NN (fun p hp => List.mem_cons_of_mem _ ?_)
      rcases List.mem_cons.mp hp with h | h
      · rw [h]; simp
      · refine List.mem_cons_of_mem _ ?_
        rw [← hR2, hrs, mled_split]
        simp only [mled, List.map_append, List.mem_append, List.mem_cons] at h ⊢
        rcases h with (h | h) | h
        · exact .inl (.inl h)
        · exact .inl (.inr (.inr h))
        · exact .inr h
    · intro x hxm
      rw [hcg]
      refine hx x ?_
      rw [hrs, ← hpi, List.take_left]; exact hxm
    · rw [hcg]; exact ⟨hG, hG2⟩
  · have hcg : ¬ r.cg = found := by assumption
    refine TEnd.intro (by k_asm) (by k_asm) (fun p hp => hp) off ⟨?_, by rw [hmq], ?_⟩
    · intro z h1; first | rfl | (simp [h1]; done) | (simp_all; done)
    · intro x hxm
      rw [List.take_add_one] at hxm
      rcases List.mem_append.mp hxm with h | h
      · exact hx x h
      · have : rs[i]? = some r := by rw [hrs, ← hpi]; simp
        rw [this] at h
        simp only [Option.toList, List.mem_singleton] at h
        rw [h]; exact hcg
end Mine
end

noncomputable section
set_option maxHeartbeats 1000000
namespace Mine
/-- the law's whole state -/
structure LS where
  Rg : Addr
  rt : Nat → Tok
  rk : Nat
  P : Addr
  Cl : Addr
  p0 : Int
  p1 : Int
  t0 : Tok
  t1 : Tok
  pn : Nat
  cells : List Value
  ck : Nat
  ns : List Int
  M : Addr
  km : Nat
  rows : List MR
  Cm : Addr
  kc : Nat
  C : Int
  tc : Tok
  c : QC
  les : List LE
  S : QS
abbrev LS.regs (σ : LS) : Obj := W.listOf #[.str (rn 0) (σ.rt 0), .str (rn 1) (σ.rt 1), .str (rn 2) (σ.rt 2), .str (rn 3) (σ.rt 3)] σ.rk
abbrev LS.pool (σ : LS) : Obj := W.listOf #[.int σ.p0 σ.t0, .int σ.p1 σ.t1, .ref σ.Cl] σ.pn
def LS.led (w : World) (σ : LS) (T : List (Addr × Obj)) : List (Addr × Obj) :=
  σ.c.led w ++ ((σ.Rg, σ.regs) :: (σ.P, σ.pool) :: (σ.Cl, lo σ.cells σ.ck) :: (σ.M, lo (mrefs σ.rows) σ.km) :: (σ.Cm, W.listOf #[.int σ.C σ.tc] σ.kc) :: T)
def LS.tail (σ : LS) (rest : List (Addr × Obj)) : List (Addr × Obj) := ledL σ.les ++ (mled σ.rows ++ rest)
structure Good (w : World) (σ : LS) (T rest : List (Addr × Obj)) : Prop where
  hT : T = σ.tail rest
  nd : ND (σ.led w T)
  is : Is σ.c σ.S
  od : σ.c.od.IsDictOf (PySem.intKind prg w) (kvsL σ.les)
  lo : (σ.c.later == sysModules) = false
  cells : IntsAre σ.cells σ.ns
  ns0 : 0 < σ.ns.length
  ns40 : σ.ns.length ≤ 40
  p0 : 0 ≤ σ.p0 ∧ σ.p0 < 10 ^ 60
  p1 : 0 ≤ σ.p1
section
variable {α : Type}
theorem mv1 {a b X : List α} : (a ++ (b ++ X)).Perm (b ++ (a ++ X)) := List.perm_append_comm_assoc ..
theorem mv2 {a b c X : List α} : (a ++ (b ++ (c ++ X))).Perm (c ++ (a ++ (b ++ X))) := (List.Perm.append_left a mv1).trans mv1
theorem mv3 {a b c d X : List α} : (a ++ (b ++ (c ++ (d ++ X)))).Perm (d ++ (a ++ (b ++ (c ++ X)))) := (List.Perm.append_left a mv2).trans mv1
theorem mv4 {a b c d e X : List α} : (a ++ (b ++ (c ++ (d ++ (e ++ X))))).Perm (e ++ (a ++ (b ++ (c ++ (d ++ X))))) := (List.Perm.append_left a mv3).trans mv1
end
/-- the same ledger, seen by a call -/
theorem Ctr.via {w : World} {lvl : Nat} {f : Addr} {args : List Value} {news news2 : List (Addr × Obj)} {post post2 : Value → List (Addr × Obj) → Prop} (h : Ctr w lvl f args news post) (p : news2.Perm news)
    (hp : ∀ r n1, post r n1 → ∃ n2, n2.Perm n1 ∧ post2 r n2) : Ctr w lvl f args news2 post2 :=
  h.mono (fun x hx => p.mem_iff.mpr hx) fun r n1 h1 => let ⟨n2, a, b⟩ := hp r n1 h1; ⟨n2, fun x hx => a.mem_iff.mp hx, b⟩
section
variable {w : World} {σ : LS} {T rest : List (Addr × Obj)}
def LS.f5 (σ : LS) : List (Addr × Obj) := [(σ.Rg, σ.regs), (σ.P, σ.pool), (σ.Cl, lo σ.cells σ.ck), (σ.M, lo (mrefs σ.rows) σ.km), (σ.Cm, W.listOf #[.int σ.C σ.tc] σ.kc)]
theorem led_q : σ.led w T = σ.c.led w ++ (σ.f5 ++ T) := rfl
/-- for a call upon the queue and its later -/
theorem perm_q : (σ.led w (σ.tail rest)).Perm (σ.c.led w ++ (ledL σ.les ++ (σ.f5 ++ (mled σ.rows ++ rest)))) := List.Perm.append_left _ (mv1 (a := σ.f5) (b := ledL σ.les) (X := mled σ.rows ++ rest))
/-- for a call upon the model -/
def LS.rm (w : World) (σ : LS) (rest : List (Addr × Obj)) : List (Addr × Obj) := σ.c.led w ++ ([(σ.Rg, σ.regs), (σ.P, σ.pool), (σ.Cl, lo σ.cells σ.ck)] ++ (ledL σ.les ++ rest))
theorem perm_m : (σ.led w (σ.tail rest)).Perm ([(σ.M, lo (mrefs σ.rows) σ.km), (σ.Cm, W.listOf #[.int σ.C σ.tc] σ.kc)] ++ (mled σ.rows ++ σ.rm w rest)) := by
  have h1 : (σ.led w (σ.tail rest)).Perm ([(σ.M, lo (mrefs σ.rows) σ.km), (σ.Cm, W.listOf #[.int σ.C σ.tc] σ.kc)] ++ (σ.c.led w ++ ([(σ.Rg, σ.regs), (σ.P, σ.pool), (σ.Cl, lo σ.cells σ.ck)] ++ σ.tail rest))) :=
    mv2 (a := σ.c.led w) (b := [(σ.Rg, σ.regs), (σ.P, σ.pool), (σ.Cl, lo σ.cells σ.ck)]) (c := [(σ.M, lo (mrefs σ.rows) σ.km), (σ.Cm, W.listOf #[.int σ.C σ.tc] σ.kc)])
  exact h1.trans (List.Perm.append_left _ mv3)
def LS.rp (w : World) (σ : LS) (T : List (Addr × Obj)) : List (Addr × Obj) := σ.c.led w ++ ([(σ.Rg, σ.regs)] ++ ([(σ.M, lo (mrefs σ.rows) σ.km), (σ.Cm, W.listOf #[.int σ.C σ.tc] σ.kc)] ++ T))
theorem perm_p : (σ.led w T).Perm ([(σ.P, σ.pool), (σ.Cl, lo σ.cells σ.ck)] ++ σ.rp w T) := mv2 (a := σ.c.led w) (b := [(σ.Rg, σ.regs)]) (c := [(σ.P, σ.pool), (σ.Cl, lo σ.cells σ.ck)])
theorem nd_off2 {a b : Addr} {oa ob : Obj} {R : List (Addr × Obj)} (h : ND ((a, oa) :: (b, ob) :: R)) : a ≠ b ∧ OwnOff R [a] := by
  unfold ND at h
  simp only [List.map_cons, List.nodup_cons, List.mem_cons, not_or] at h
  refine ⟨h.1.1, fun p hp x hx e => ?_⟩
  rw [List.mem_singleton.mp hx] at e
  exact h.1.2 (e ▸ List.mem_map.mpr ⟨p, hp, rfl⟩)
theorem c_draw (G : Good w σ T rest) (most : Int) (tm : Tok) (hm : 0 < most) (hm' : most ≤ 40) (hp1 : σ.p1 < 1000) :
    Ctr w 1 91 [.ref σ.P, .int most tm] (σ.led w T) (fun v news' => ∃ (d : Nat) (td : Tok) (q0 q1 : Int) (u0 u1 : Tok) (n' : Nat), v = .int (d : Int) td ∧ (d : Int) < most ∧ q1 ≤ σ.p1 + 1 ∧
      news' = ({ σ with p0 := q0, p1 := q1, t0 := u0, t1 := u1, pn := n' } : LS).led w T ∧ Good w { σ with p0 := q0, p1 := q1, t0 := u0, t1 := u1, pn := n' } T rest) := by
  have nd1 := NDperm G.nd perm_p
  obtain ⟨h1, h2⟩ := nd_off2 nd1
  refine Ctr.via (draw w σ.P σ.Cl σ.p0 σ.p1 most σ.t0 σ.t1 tm σ.pn σ.ck σ.cells σ.ns (σ.rp w T) G.cells G.ns0 G.ns40 h1 h2 G.p0.1 G.p0.2 G.p1 hp1 hm hm') perm_p ?_
  rintro v n1 ⟨d, td, q0, q1, u0, u1, n', rfl, hd0, hd1, hq0, hq0', hq1, hq1', rfl⟩
  refine ⟨({ σ with p0 := q0, p1 := q1, t0 := u0, t1 := u1, pn := n' } : LS).led w T, perm_p, d.toNat, td, q0, q1, u0, u1, n', by rw [Int.toNat_of_nonneg hd0], by rw [Int.toNat_of_nonneg hd0]; exact hd1, hq1', rfl, ?_⟩
  exact ⟨G.hT, G.nd.same rfl, G.is, G.od, G.lo, G.cells, G.ns0, G.ns40, ⟨hq0, hq0'⟩, hq1⟩
theorem c_add (G : Good w σ T rest) (r : Nat) (hr : r < 4) (ev : Int) (te t : Tok) (hz : σ.S.cap 1000) :
    Ctr w 1 35 [.ref σ.c.Qa, .str (rn r) t, .int ev te] (σ.led w T) (fun v news' => v = .none ∧ ∃ c' : QC, c'.Qa = σ.c.Qa ∧
      news' = ({ σ with c := c', S := σ.S.add r ev } : LS).led w T ∧ Good w { σ with c := c', S := σ.S.add r ev } T rest) := by
  refine Ctr.via (add w σ.c (σ.f5 ++ T) G.nd r hr ev te t (is_cap G.is hz (Nat.le_refl _))) (List.Perm.refl _) ?_
  rintro v n1 ⟨rfl, rfl⟩
  obtain ⟨p1, p2, p3, p4⟩ := push_fix σ.c r (.int ev te)
  refine ⟨_, List.Perm.refl _, rfl, σ.c.push r (.int ev te), p1, rfl, G.hT, nd_same (p4 w) G.nd, is_push G.is _ _ _, ?_, ?_, G.cells, G.ns0, G.ns40, G.p0, G.p1⟩
  · rw [p3]; exact G.od
  · show ((σ.c.push r (.int ev te)).later == sysModules) = false
    rw [p2]; exact G.lo
theorem c_take (G : Good w σ T rest) (hz : σ.S.small) (hh : σ.S.head ≤ σ.S.act.length) :
    Ctr w 2 56 [.ref σ.c.Qa] (σ.led w T) (fun v news' => (match σ.S.taken with | some e => ∃ t, v = .int e t | none => v = .none) ∧ ∃ c' : QC, c'.Qa = σ.c.Qa ∧
      news' = ({ σ with c := c', S := σ.S.take } : LS).led w T ∧ Good w { σ with c := c', S := σ.S.take } T rest) := by
  refine Ctr.via (take w σ.c (σ.f5 ++ T) G.nd G.is hz hh) (List.Perm.refl _) ?_
  rintro v n1 ⟨c', rfl, hv, nd', ⟨e1, e2, e3⟩, is'⟩
  refine ⟨_, List.Perm.refl _, hv, c', e1, rfl, G.hT, nd', is', ?_, ?_, G.cells, G.ns0, G.ns40, G.p0, G.p1⟩
  · rw [e3]; exact G.od
  · show (c'.later == sysModules) = false
    rw [e2]; exact G.lo
theorem c_next_time (G : Good w σ T rest) (hz : σ.les.length ≤ 60) :
    Ctr w 1 63 [.ref σ.c.Qa] (σ.led w T) (fun v news' => news' = σ.led w T ∧ ∃ x t, v = .int x t ∧ NextIs (σ.les.map (·.t)) x) := by
  refine Ctr.via (next_time w σ.c (σ.f5 ++ T) G.od G.lo (by simpa [kvsL] using hz)) (List.Perm.refl _) ?_
  rintro v n1 ⟨rfl, M, t, rfl, h⟩
  exact ⟨_, List.Perm.refl _, rfl, M, t, rfl, by simpa [kvsL, Function.comp_def] using h⟩
theorem c_pending (G : Good w σ T rest) (hz : σ.S.cap 1000) (hh : σ.S.head ≤ σ.S.act.length) (hn : σ.les.length ≤ 60) (hreg : ∀ e ∈ σ.les, e.rows.length ≤ 400) :
    Ctr w 1 77 [.ref σ.c.Qa] (σ.led w T) (fun v news' => news' = σ.led w T ∧ ∃ t, v = .int ((σ.S.act.length : Int) - σ.S.head + (σ.S.ina.length + σ.S.nba.length + σ.S.late.length) + ((σ.les.map (·.rows.length)).sum : Nat)) t) := by
  have hT := G.hT; subst hT
  refine Ctr.via (pending w σ.c σ.les _ G.is hz hh G.od G.lo hn hreg) perm_q ?_
  rintro v n1 ⟨rfl, t, rfl⟩
  exact ⟨_, perm_q, rfl, t, rfl⟩
theorem c_law_next (G : Good w σ T rest) (hz : σ.rows.length ≤ 1000) :
    Ctr w 1 101 [.ref σ.M] (σ.led w T) (fun v news' => news' = σ.led w T ∧ ∃ x t, v = .int x t ∧ NextIs ((σ.rows.filter fun r => decide (0 < r.tm)).map (·.tm)) x) := by
  have hT := G.hT; subst hT
  refine Ctr.via (law_next w σ.M σ.km σ.rows ([(σ.Cm, W.listOf #[.int σ.C σ.tc] σ.kc)] ++ σ.rm w rest) hz) (perm_m.trans (List.Perm.cons _ mv1)) ?_
  rintro v n1 ⟨rfl, x, t, rfl, h⟩
  exact ⟨_, perm_m.trans (List.Perm.cons _ mv1), rfl, x, t, rfl, h⟩
end
end Mine
end

noncomputable section
set_option maxHeartbeats 1000000
namespace Mine
theorem Ctr.up {w : World} {lvl : Nat} {f : Addr} {args : List Value} {news : List (Addr × Obj)} {post : Value → List (Addr × Obj) → Prop} (h : Ctr w lvl f args news post) : Ctr w (lvl + 1) f args news post := by
  k_with_none
  w_top off
  intro dp un gd cn cs a ccd cl outer A₀ base h₀ L m s mean mg mb Q E B F X N T hk hd hu hret
  exact h dp un gd cn cs a ccd cl outer A₀ base h₀ L m s mean mg mb Q E B F X N T hk (by omega) (by omega) hret
section
variable {w : World} {σ : LS} {T rest : List (Addr × Obj)}
theorem c_add_after (G : Good w σ T rest) (d : Int) (r : Nat) (hr : r < 4) (ev : Int) (td te t : Tok) (hz : σ.S.cap 1000) (hn : σ.les.length ≤ 60) (hreg : ∀ e ∈ σ.les, e.rows.length ≤ 400) :
    Ctr w 2 42 [.ref σ.c.Qa, .int d td, .int ev te, .str (rn r) t] (σ.led w T) (fun v news' => v = .none ∧ ∃ (c' : QC) (les' : List LE) (S' : QS) (T' : List (Addr × Obj)), c'.Qa = σ.c.Qa ∧
      ((d = 0 ∧ les' = σ.les ∧ S' = σ.S.add (max r 1) ev) ∨ (d ≠ 0 ∧ S' = σ.S ∧ Ins σ.les (σ.S.now + d) (r, ev) les')) ∧
      news' = ({ σ with c := c', les := les', S := S' } : LS).led w T' ∧ Good w { σ with c := c', les := les', S := S' } T' rest) := by
  have hT := G.hT
  subst hT
  by_cases hd : d = 0
  · subst hd
    refine Ctr.via (aa_zero w σ.c (σ.f5 ++ σ.tail rest) G.nd r hr ev td te t (is_cap G.is hz (Nat.le_refl _))) (List.Perm.refl _) ?_
    rintro v n1 ⟨rfl, rfl⟩
    obtain ⟨p1, p2, p3, p4⟩ := push_fix σ.c (max r 1) (.int ev te)
    refine ⟨_, List.Perm.refl _, rfl, σ.c.push (max r 1) (.int ev te), σ.les, σ.S.add (max r 1) ev, σ.tail rest, p1, .inl ⟨rfl, rfl, rfl⟩, rfl, rfl, nd_same (p4 w) G.nd, is_push G.is _ _ _, ?_, ?_, G.cells, G.ns0, G.ns40, G.p0, G.p1⟩
    · rw [p3]; exact G.od
    · show ((σ.c.push (max r 1) (.int ev te)).later == sysModules) = false
      rw [p2]; exact G.lo
  · refine Ctr.via (Ctr.up (aa_pos w σ.c σ.les (σ.f5 ++ (mled σ.rows ++ rest)) (NDperm G.nd perm_q) G.od G.lo hn hreg d hd r ev td te t)) perm_q ?_
    rintro v n1 ⟨rfl, od', les', rfl, nd', hod', hins⟩
    refine ⟨_, perm_q (σ := { σ with c := { σ.c with od := od' }, les := les' }), rfl, { σ.c with od := od' }, les', σ.S, _, rfl, .inr ⟨hd, rfl, ?_⟩, rfl, rfl, ?_, ⟨G.is.now, G.is.head, G.is.act, G.is.ina, G.is.nba, G.is.late⟩, hod', G.lo, G.cells, G.ns0, G.ns40, G.p0, G.p1⟩
    · rw [← G.is.now]; exact hins
    · exact NDperm nd' (perm_q (σ := { σ with c := { σ.c with od := od' }, les := les' })).symm
theorem c_advance (G : Good w σ T rest) (hz : σ.S.cap 500) (hn : σ.les.length ≤ 60) (hpos : ∀ e ∈ σ.les, 0 ≤ e.t) (hreg : ∀ e ∈ σ.les, e.rows.length ≤ 400 ∧ ∀ r ∈ e.rows, r.reg < 4) :
    Ctr w 3 70 [.ref σ.c.Qa] (σ.led w T) (fun v news' => (σ.les = [] ∧ v = .bool false ∧ news' = σ.led w T) ∨ ∃ (pre : List LE) (e : LE) (post : List LE) (c' : QC) (T' : List (Addr × Obj)), σ.les = pre ++ e :: post ∧ (∀ e' ∈ σ.les, e.t ≤ e'.t) ∧
      v = .bool true ∧ c'.Qa = σ.c.Qa ∧ news' = ({ σ with c := c', les := pre ++ post, S := { σ.S.addAll e.rows with now := e.t } } : LS).led w T' ∧ Good w { σ with c := c', les := pre ++ post, S := { σ.S.addAll e.rows with now := e.t } } T' rest) := by
  have hT := G.hT
  subst hT
  refine Ctr.via (advance w σ.c σ.les (σ.f5 ++ (mled σ.rows ++ rest)) (NDperm G.nd perm_q) G.is hz G.od G.lo hn hpos hreg) perm_q ?_
  rintro v n1 (⟨h1, rfl, rfl⟩ | ⟨pre, e, post, c', h1, h2, rfl, rfl, nd', h3, h4, h5, h6⟩)
  · exact ⟨_, perm_q, .inl ⟨h1, rfl, rfl⟩⟩
  · refine ⟨_, perm_q (σ := { σ with c := c', les := pre ++ post }), .inr ⟨pre, e, post, c', _, h1, h2, rfl, h3, rfl, rfl, ?_, h6, h5, ?_, G.cells, G.ns0, G.ns40, G.p0, G.p1⟩⟩
    · exact NDperm nd' (perm_q (σ := { σ with c := c', les := pre ++ post })).symm
    · show (c'.later == sysModules) = false
      rw [h4]; exact G.lo
theorem c_law_taken (G : Good w σ T rest) (hz : σ.rows.length ≤ 1000) (hb : ∀ r ∈ σ.rows, 0 ≤ r.tm ∧ r.tm ≤ 10 ^ 30) :
    Ctr w 1 96 [.ref σ.M] (σ.led w T) (fun v news' => (fr σ.rows = [] ∧ v = .none ∧ news' = σ.led w T) ∨ ∃ (least : Int) (rs pre : List MR) (r : MR) (post : List MR) (t : Tok) (T' : List (Addr × Obj)), Taken σ.rows least rs pre r post ∧
      v = .int r.st t ∧ news' = ({ σ with rows := pre ++ post, km := σ.km + 1 } : LS).led w T' ∧ Good w { σ with rows := pre ++ post, km := σ.km + 1 } T' rest) := by
  have hT := G.hT
  subst hT
  have pm : ∀ σ : LS, (σ.led w (σ.tail rest)).Perm ((σ.M, lo (mrefs σ.rows) σ.km) :: (mled σ.rows ++ ([(σ.Cm, W.listOf #[.int σ.C σ.tc] σ.kc)] ++ σ.rm w rest))) := fun σ => perm_m.trans (List.Perm.cons _ mv1)
  refine Ctr.via (law_taken w σ.M σ.km σ.rows ([(σ.Cm, W.listOf #[.int σ.C σ.tc] σ.kc)] ++ σ.rm w rest) hz (NDperm G.nd (pm σ)) hb) (pm σ) ?_
  rintro v n1 (⟨h1, rfl, rfl⟩ | ⟨least, rs, pre, r, post, t, h1, rfl, rfl⟩)
  · exact ⟨_, pm σ, .inl ⟨h1, rfl, rfl⟩⟩
  · refine ⟨_, pm { σ with rows := pre ++ post, km := σ.km + 1 }, .inr ⟨least, rs, pre, r, post, t, _, h1, rfl, rfl, rfl, ?_, G.is, G.od, G.lo, G.cells, G.ns0, G.ns40, G.p0, G.p1⟩⟩
    refine NDperm ?_ (pm { σ with rows := pre ++ post, km := σ.km + 1 }).symm
    have nd1 := NDperm G.nd (pm σ)
    unfold ND at nd1 ⊢
    refine List.Sublist.nodup ?_ nd1
    simp only [List.map_cons, List.map_append]
    refine List.Sublist.cons_cons _ (List.Sublist.append ?_ (List.Sublist.refl _))
    rw [← mled_addr h1.addr, h1.split, mled_split]
    have : mled (pre ++ post) = mled pre ++ mled post := by simp [mled]
    rw [this, List.map_append, List.map_append]
    exact List.Sublist.append (List.Sublist.refl _) (by rw [List.map_cons]; exact List.sublist_cons_self ..)
theorem c_law_advanced (G : Good w σ T rest) (hz : σ.rows.length ≤ 1000) (hb : ∀ r ∈ σ.rows, 0 ≤ r.tm ∧ r.tm ≤ 10 ^ 30) :
    Ctr w 2 108 [.ref σ.M, .ref σ.Cm] (σ.led w T) (fun v news' => (((σ.rows.filter fun r => decide (0 < r.tm)).map (·.tm)) = [] ∧ v = .bool false ∧ news' = σ.led w T) ∨
      ∃ (step : Int) (rs : List MR) (tc' : Tok) (kc' : Nat) (T' : List (Addr × Obj)), NextIs ((σ.rows.filter fun r => decide (0 < r.tm)).map (·.tm)) step ∧ 0 < step ∧ v = .bool true ∧ rs.map MR.pl = (renum step σ.C (σ.rows.map MR.pl)).map (shift step) ∧
      news' = ({ σ with rows := rs, C := σ.C + cntS step (σ.rows.map MR.pl), tc := tc', kc := kc' } : LS).led w T' ∧ Good w { σ with rows := rs, C := σ.C + cntS step (σ.rows.map MR.pl), tc := tc', kc := kc' } T' rest) := by
  have hT := G.hT
  subst hT
  refine Ctr.via (law_advanced w σ.M σ.Cm σ.km σ.kc σ.C σ.tc σ.rows (σ.rm w rest) hz (NDperm G.nd perm_m) hb) perm_m ?_
  rintro v n1 (⟨h1, rfl, rfl⟩ | ⟨step, rs, tc', kc', h1, h2, rfl, h3, rfl, h4⟩)
  · exact ⟨_, perm_m, .inl ⟨h1, rfl, rfl⟩⟩
  · refine ⟨_, perm_m (σ := { σ with rows := rs, C := σ.C + cntS step (σ.rows.map MR.pl), tc := tc', kc := kc' }), .inr ⟨step, rs, tc', kc', _, h1, h2, rfl, h4, rfl, rfl, ?_, G.is, G.od, G.lo, G.cells, G.ns0, G.ns40, G.p0, G.p1⟩⟩
    refine NDperm ?_ (perm_m (σ := { σ with rows := rs, C := σ.C + cntS step (σ.rows.map MR.pl), tc := tc', kc := kc' })).symm
    refine (NDperm G.nd perm_m).same ?_
    simp [mled_addr h3, LS.rm]
end
end Mine
end

noncomputable section
set_option maxHeartbeats 1000000
namespace Mine
/-- the rows of the present in region r, as (number, event) -/
def csR (P : List PR) (r : Int) : List (Int × Int) := (P.filter fun p => decide (p.tm = 0 ∧ p.rg = r)).map fun p => (p.cg, p.st)
def RegIs (P : List PR) (r : Int) (L : List Int) : Prop := ∃ A : List (Int × Int), A.Pairwise (fun x y => x.1 < y.1) ∧ A.map (·.2) = L ∧ A.Perm (csR P r)
structure Sim (S : QS) (lp : List (Int × List (Nat × Int))) (P : List PR) (C now : Int) (n : Nat) : Prop where
  hnow : S.now = now
  head : S.head ≤ S.act.length
  reg0 : RegIs P 0 (S.act.drop S.head)
  reg1 : RegIs P 1 S.ina
  reg2 : RegIs P 2 S.nba
  reg3 : RegIs P 3 S.late
  cgs : (P.map (·.cg)).Nodup
  cgC : ∀ p ∈ P, p.cg < C
  tms : ∀ p ∈ P, 0 ≤ p.tm ∧ p.tm ≤ 10 ^ 30
  rgs : ∀ p ∈ P, 0 ≤ p.rg ∧ p.rg < 4
  keys : ∀ p ∈ P, 0 < p.tm → now + p.tm ∈ lp.map (·.1)
  evs : ∀ e ∈ lp, now < e.1 ∧ e.2 = (P.filter fun p => decide (p.tm = e.1 - now)).map (fun p => (p.rg.toNat, p.st)) ∧ e.2 ≠ []
  knd : (lp.map (·.1)).Nodup
  sum : (lp.map (·.2.length)).sum = (P.filter fun p => decide (0 < p.tm)).length
  sz : S.head + P.length ≤ n
theorem RegIs.len {P : List PR} {r : Int} {L : List Int} (h : RegIs P r L) : L.length = (csR P r).length := by
  obtain ⟨A, _, rfl, h3⟩ := h
  rw [List.length_map]; exact h3.length_eq
theorem RegIs.nil {P : List PR} {r : Int} (h : csR P r = []) : RegIs P r [] := ⟨[], List.Pairwise.nil, rfl, by rw [h]⟩
theorem csR_app (P Q : List PR) (r : Int) : csR (P ++ Q) r = csR P r ++ csR Q r := by simp [csR]
theorem csR_mem {P : List PR} {r : Int} {x : Int × Int} (h : x ∈ csR P r) : ∃ p ∈ P, p.tm = 0 ∧ p.rg = r ∧ x = (p.cg, p.st) := by
  obtain ⟨p, hp, rfl⟩ := List.mem_map.mp h
  obtain ⟨h1, h2⟩ := List.mem_filter.mp hp
  have := of_decide_eq_true h2
  exact ⟨p, h1, this.1, this.2, rfl⟩
theorem csR_of {P : List PR} {r : Int} {p : PR} (h : p ∈ P) (h1 : p.tm = 0) (h2 : p.rg = r) : (p.cg, p.st) ∈ csR P r := List.mem_map.mpr ⟨p, List.mem_filter.mpr ⟨h, decide_eq_true ⟨h1, h2⟩⟩, rfl⟩
theorem csR_skip {r : Int} {p : PR} (h : ¬ (p.tm = 0 ∧ p.rg = r)) : csR [p] r = [] := by simp [csR, h]
theorem csR_one {r : Int} {p : PR} (h1 : p.tm = 0) (h2 : p.rg = r) : csR [p] r = [(p.cg, p.st)] := by simp [csR, h1, h2]
theorem RegIs.snoc {P : List PR} {r : Int} {L : List Int} {C : Int} (h : RegIs P r L) (hC : ∀ p ∈ P, p.cg < C) (ev : Int) : RegIs (P ++ [⟨0, r, C, ev⟩]) r (L ++ [ev]) := by
  obtain ⟨A, h1, rfl, h3⟩ := h
  refine ⟨A ++ [(C, ev)], ?_, by simp, ?_⟩
  · refine List.pairwise_append.mpr ⟨h1, List.pairwise_singleton .., fun x hx y hy => ?_⟩
    rw [List.mem_singleton.mp hy]
    obtain ⟨p, hp, _, _, rfl⟩ := csR_mem (h3.mem_iff.mp hx)
    exact hC p hp
  · rw [csR_app, csR_one rfl rfl]
    exact h3.append_right _
theorem RegIs.other {P : List PR} {r : Int} {L : List Int} (h : RegIs P r L) {p : PR} (hp : ¬ (p.tm = 0 ∧ p.rg = r)) : RegIs (P ++ [p]) r L := by
  obtain ⟨A, h1, h2, h3⟩ := h
  exact ⟨A, h1, h2, by rw [csR_app, csR_skip hp, List.append_nil]; exact h3⟩
theorem sim_init : Sim ⟨0, 0, [], [], [], []⟩ [] [] 0 0 0 := by
  refine ⟨rfl, Nat.le_refl _, RegIs.nil rfl, RegIs.nil rfl, RegIs.nil rfl, RegIs.nil rfl, List.nodup_nil, ?_, ?_, ?_, ?_, ?_, List.nodup_nil, rfl, Nat.le_refl _⟩ <;> simp
theorem cgs_snoc {P : List PR} {C : Int} {p : PR} (hp : p.cg = C) (h : (P.map (·.cg)).Nodup) (hC : ∀ p ∈ P, p.cg < C) : ((P ++ [p]).map (·.cg)).Nodup := by
  rw [List.map_append, List.map_cons, List.map_nil, hp]
  refine List.nodup_append.mpr ⟨h, List.pairwise_singleton .., fun a ha b hb => ?_⟩
  obtain ⟨q, hq, rfl⟩ := List.mem_map.mp ha
  rw [List.mem_singleton.mp hb]
  have := hC q hq
  omega
theorem mem_snoc {P : List PR} {p : PR} {φ : PR → Prop} (h : ∀ q ∈ P, φ q) (hp : φ p) : ∀ q ∈ P ++ [p], φ q := fun q hq => by
  rcases List.mem_append.mp hq with h1 | h1
  · exact h q h1
  · rw [List.mem_singleton.mp h1]; exact hp
theorem sim_add {S : QS} {lp : List (Int × List (Nat × Int))} {P : List PR} {C now : Int} {n : Nat} (h : Sim S lp P C now n) (r : Nat) (hr : r < 4) (ev : Int) : Sim (S.add r ev) lp (P ++ [(⟨0, r, C, ev⟩ : PR)]) (C + 1) now (n + 1) := by
  have hk : ∀ e ∈ lp, now < e.1 ∧ e.2 = ((P ++ [(⟨0, r, C, ev⟩ : PR)]).filter fun p => decide (p.tm = e.1 - now)).map (fun p => (p.rg.toNat, p.st)) ∧ e.2 ≠ [] := fun e he => by
    obtain ⟨h1, h2, h3⟩ := h.evs e he
    refine ⟨h1, ?_, h3⟩
    rw [List.filter_append, List.filter_cons, if_neg (by simp; omega), List.filter_nil, List.append_nil]; exact h2
  have hs : (lp.map (·.2.length)).sum = ((P ++ [(⟨0, r, C, ev⟩ : PR)]).filter fun p => decide (0 < p.tm)).length := by
    rw [List.filter_append, List.filter_cons, if_neg (by simp), List.filter_nil, List.append_nil]; exact h.sum
  have hc := cgs_snoc (p := ⟨0, r, C, ev⟩) rfl h.cgs h.cgC
  have hcC : ∀ p ∈ P ++ [(⟨0, r, C, ev⟩ : PR)], p.cg < C + 1 := mem_snoc (fun q hq => by have := h.cgC q hq; omega) (show C < C + 1 by omega)
  have ht := mem_snoc (p := ⟨0, r, C, ev⟩) h.tms ⟨Int.le_refl _, show (0 : Int) ≤ 10 ^ 30 by decide⟩
  have hg := mem_snoc (p := ⟨0, r, C, ev⟩) h.rgs ⟨by show (0 : Int) ≤ r; omega, by show (r : Int) < 4; omega⟩
  have hke := mem_snoc (p := ⟨0, r, C, ev⟩) h.keys (fun q => absurd q (by simp))
  have hsz : S.head + (P ++ [(⟨0, r, C, ev⟩ : PR)]).length ≤ n + 1 := by have := h.sz; simp; omega
  obtain rfl | rfl | rfl | rfl : r = 0 ∨ r = 1 ∨ r = 2 ∨ r = 3 := by omega
  · exact ⟨h.hnow, by have := h.head; simp [QS.add]; omega, by show RegIs _ 0 (List.drop S.head (S.act ++ [ev])); rw [List.drop_append_of_le_length h.head]; exact h.reg0.snoc h.cgC ev, h.reg1.other (by simp), h.reg2.other (by simp), h.reg3.other (by simp), hc, hcC, ht, hg, hke, hk, h.knd, hs, hsz⟩
  · exact ⟨h.hnow, h.head, h.reg0.other (by simp), h.reg1.snoc h.cgC ev, h.reg2.other (by simp), h.reg3.other (by simp), hc, hcC, ht, hg, hke, hk, h.knd, hs, hsz⟩
  · exact ⟨h.hnow, h.head, h.reg0.other (by simp), h.reg1.other (by simp), h.reg2.snoc h.cgC ev, h.reg3.other (by simp), hc, hcC, ht, hg, hke, hk, h.knd, hs, hsz⟩
  · exact ⟨h.hnow, h.head, h.reg0.other (by simp), h.reg1.other (by simp), h.reg2.other (by simp), h.reg3.snoc h.cgC ev, hc, hcC, ht, hg, hke, hk, h.knd, hs, hsz⟩
end Mine
end

noncomputable section
set_option maxHeartbeats 1000000
namespace Mine
def plp (les : List LE) : List (Int × List (Nat × Int)) := les.map fun e => (e.t, e.abs)
def InsP (lp : List (Int × List (Nat × Int))) (T : Int) (x : Nat × Int) (lp' : List (Int × List (Nat × Int))) : Prop :=
  (∃ a xs b, lp = a ++ (T, xs) :: b ∧ lp' = a ++ (T, xs ++ [x]) :: b) ∨ (T ∉ lp.map (·.1) ∧ lp' = lp ++ [(T, [x])])
theorem plp_keys (les : List LE) : (plp les).map (·.1) = les.map (·.t) := by simp [plp, Function.comp_def]
theorem ins_plain {les les' : List LE} {T : Int} {x : Nat × Int} (h : Ins les T x les') : InsP (plp les) T x (plp les') := by
  rcases h with ⟨pre, e, post, e', rfl, rfl, rfl, h2, h3⟩ | ⟨h1, e', rfl, h2, h3⟩
  · exact .inl ⟨plp pre, e.abs, plp post, by simp [plp], by simp [plp, h2, h3]⟩
  · exact .inr ⟨by rw [plp_keys]; exact h1, by simp [plp, h2, h3]⟩
theorem sim_later {S : QS} {lp lp' : List (Int × List (Nat × Int))} {P : List PR} {C now : Int} {n : Nat} (h : Sim S lp P C now n) (r : Nat) (hr : r < 4) (ev d : Int) (hd : 0 < d) (hd' : d ≤ 10 ^ 30) (hi : InsP lp (now + d) (r, ev) lp') :
    Sim S lp' (P ++ [(⟨d, r, C, ev⟩ : PR)]) (C + 1) now (n + 1) := by
  have hoth : ∀ r' : Int, ¬ ((⟨d, r, C, ev⟩ : PR).tm = 0 ∧ (⟨d, r, C, ev⟩ : PR).rg = r') := fun r' q => by have := q.1; simp at this; omega
  have hc := cgs_snoc (p := ⟨d, r, C, ev⟩) rfl h.cgs h.cgC
  have hcC : ∀ p ∈ P ++ [(⟨d, r, C, ev⟩ : PR)], p.cg < C + 1 := mem_snoc (fun q hq => by have := h.cgC q hq; omega) (show C < C + 1 by omega)
  have ht := mem_snoc (p := ⟨d, r, C, ev⟩) h.tms ⟨Int.le_of_lt hd, hd'⟩
  have hg := mem_snoc (p := ⟨d, r, C, ev⟩) h.rgs ⟨by show (0 : Int) ≤ r; omega, by show (r : Int) < 4; omega⟩
  have hsz : S.head + (P ++ [(⟨d, r, C, ev⟩ : PR)]).length ≤ n + 1 := by have := h.sz; simp; omega
  have hkeys : ∀ T, T ∈ lp.map (·.1) → T ∈ lp'.map (·.1) := fun T hT => by
    rcases hi with ⟨a, xs, b, rfl, rfl⟩ | ⟨_, rfl⟩
    · simpa using hT
    · rw [List.map_append]; exact List.mem_append_left _ hT
  have hnew : now + d ∈ lp'.map (·.1) := by
    rcases hi with ⟨a, xs, b, rfl, rfl⟩ | ⟨_, rfl⟩ <;> simp
  have hfl : ∀ T : Int, (P ++ [(⟨d, r, C, ev⟩ : PR)]).filter (fun p => decide (p.tm = T - now)) = P.filter (fun p => decide (p.tm = T - now)) ++ if T = now + d then [(⟨d, r, C, ev⟩ : PR)] else [] := fun T => by
    rw [List.filter_append, List.filter_cons]
    by_cases hq : T = now + d
    · rw [if_pos hq, if_pos (by simp; omega), List.filter_nil]
    · rw [if_neg hq, if_neg (by simp; omega), List.filter_nil]
  have hnoold : now + d ∉ lp.map (·.1) → P.filter (fun p => decide (p.tm = now + d - now)) = [] := fun hno => by
    rw [List.filter_eq_nil_iff]
    intro p hp hq
    have hq := of_decide_eq_true hq
    refine hno ?_
    have := h.keys p hp (by omega)
    rw [show now + p.tm = now + d by omega] at this; exact this
  refine ⟨h.hnow, h.head, h.reg0.other (hoth 0), h.reg1.other (hoth 1), h.reg2.other (hoth 2), h.reg3.other (hoth 3), hc, hcC, ht, hg, mem_snoc (fun q hq hp => hkeys _ (h.keys q hq hp)) (fun _ => hnew), ?_, ?_, ?_, hsz⟩
  · rcases hi with ⟨a, xs, b, rfl, rfl⟩ | ⟨hno, rfl⟩
    · intro e he
      by_cases hT : e.1 = now + d
      · have he' : e = (now + d, xs ++ [(r, ev)]) := by
          have hn := h.knd
          rw [List.map_append, List.map_cons] at hn
          rcases List.mem_append.mp he with h1 | h1
          · exact absurd (List.mem_map.mpr ⟨e, h1, rfl⟩) (fun q => (List.nodup_append.mp hn).2.2 _ q (now + d) (List.mem_cons_self ..) hT)
          · rcases List.mem_cons.mp h1 with h1 | h1
            · exact h1
            · exact absurd (hT ▸ List.mem_map.mpr ⟨e, h1, rfl⟩) (List.nodup_cons.mp (List.nodup_append.mp hn).2.1).1
        subst he'
        obtain ⟨h1, h2, h3⟩ := h.evs (now + d, xs) (by simp)
        refine ⟨h1, ?_, by simp⟩
        rw [hfl, if_pos rfl, List.map_append, ← h2]; rfl
      · have he' : e ∈ a ++ (now + d, xs) :: b := by
          rcases List.mem_append.mp he with h1 | h1
          · exact List.mem_append_left _ h1
          · rcases List.mem_cons.mp h1 with h1 | h1
            · exact absurd (by rw [h1]) hT
            · exact List.mem_append_right _ (List.mem_cons_of_mem _ h1)
        obtain ⟨h1, h2, h3⟩ := h.evs e he'
        refine ⟨h1, ?_, h3⟩
        rw [hfl, if_neg hT, List.append_nil]; exact h2
    · intro e he
      rcases List.mem_append.mp he with h1 | h1
      · obtain ⟨h1', h2, h3⟩ := h.evs e h1
        refine ⟨h1', ?_, h3⟩
        rw [hfl, if_neg (show ¬ e.1 = now + d from fun q => hno (q ▸ List.mem_map.mpr ⟨e, h1, rfl⟩)), List.append_nil]; exact h2
      · rw [List.mem_singleton.mp h1]
        refine ⟨by show now < now + d; omega, ?_, by simp⟩
        show [(r, ev)] = _
        rw [hfl, if_pos rfl, hnoold hno]; simp
  · rcases hi with ⟨a, xs, b, rfl, rfl⟩ | ⟨hno, rfl⟩
    · have := h.knd; simpa using this
    · rw [List.map_append]
      refine List.nodup_append.mpr ⟨h.knd, by simp, fun x hx y hy q => ?_⟩
      simp only [List.map_cons, List.map_nil, List.mem_singleton] at hy
      exact hno (by rw [← hy, ← q]; exact hx)
  · have h1 : ((P ++ [(⟨d, r, C, ev⟩ : PR)]).filter fun p => decide (0 < p.tm)).length = (P.filter fun p => decide (0 < p.tm)).length + 1 := by
      rw [List.filter_append, List.filter_cons, if_pos (by simpa using hd), List.filter_nil, List.length_append]; rfl
    rw [h1, ← h.sum]
    rcases hi with ⟨a, xs, b, rfl, rfl⟩ | ⟨_, rfl⟩
    · simp; omega
    · simp
/-- the numbers of the present, region by region -/
theorem sim_count {S : QS} {lp : List (Int × List (Nat × Int))} {P : List PR} {C now : Int} {n : Nat} (h : Sim S lp P C now n) :
    (csR P 0).length + (csR P 1).length + (csR P 2).length + (csR P 3).length + (P.filter fun p => decide (0 < p.tm)).length = P.length := by
  have ht := h.tms
  have hg := h.rgs
  clear h
  induction P with
  | nil => rfl
  | cons p P ih =>
    have ih := ih (fun q hq => ht q (List.mem_cons_of_mem _ hq)) (fun q hq => hg q (List.mem_cons_of_mem _ hq))
    have e : ∀ r, csR (p :: P) r = csR [p] r ++ csR P r := fun r => csR_app [p] P r
    rw [e, e, e, e]
    simp only [List.length_append, List.length_cons, List.filter_cons]
    have h1 := ht p (List.mem_cons_self ..)
    have h2 := hg p (List.mem_cons_self ..)
    by_cases hp : 0 < p.tm
    · have hs : ∀ r, csR [p] r = [] := fun r => csR_skip (fun q => by omega)
      rw [hs, hs, hs, hs, if_pos (by simpa using hp)]
      simp only [List.length_nil, List.length_cons]; omega
    · have h0 : p.tm = 0 := by omega
      rw [if_neg (by simpa using hp)]
      have : p.rg = 0 ∨ p.rg = 1 ∨ p.rg = 2 ∨ p.rg = 3 := by omega
      rcases this with hr | hr | hr | hr
      · rw [csR_one (r := 0) h0 hr, csR_skip (r := 1) (by omega), csR_skip (r := 2) (by omega), csR_skip (r := 3) (by omega)]; simp only [List.length_nil, List.length_cons]; omega
      · rw [csR_one (r := 1) h0 hr, csR_skip (r := 0) (by omega), csR_skip (r := 2) (by omega), csR_skip (r := 3) (by omega)]; simp only [List.length_nil, List.length_cons]; omega
      · rw [csR_one (r := 2) h0 hr, csR_skip (r := 1) (by omega), csR_skip (r := 0) (by omega), csR_skip (r := 3) (by omega)]; simp only [List.length_nil, List.length_cons]; omega
      · rw [csR_one (r := 3) h0 hr, csR_skip (r := 1) (by omega), csR_skip (r := 2) (by omega), csR_skip (r := 0) (by omega)]; simp only [List.length_nil, List.length_cons]; omega
theorem sim_pending {S : QS} {lp : List (Int × List (Nat × Int))} {P : List PR} {C now : Int} {n : Nat} (h : Sim S lp P C now n) :
    (S.act.length : Int) - S.head + (S.ina.length + S.nba.length + S.late.length) + ((lp.map (·.2.length)).sum : Nat) = P.length := by
  have h0 := h.reg0.len
  have h1 := h.reg1.len
  have h2 := h.reg2.len
  have h3 := h.reg3.len
  have := sim_count h
  have hh := h.head
  rw [h.sum]
  rw [List.length_drop] at h0
  omega
theorem sim_sizes {S : QS} {lp : List (Int × List (Nat × Int))} {P : List PR} {C now : Int} {n : Nat} (h : Sim S lp P C now n) : S.cap n ∧ lp.length ≤ n ∧ (∀ e ∈ lp, e.2.length ≤ n) ∧ P.length ≤ n := by
  have h0 := h.reg0.len
  have h1 := h.reg1.len
  have h2 := h.reg2.len
  have h3 := h.reg3.len
  have hc := sim_count h
  have hh := h.head
  have hs := h.sz
  rw [List.length_drop] at h0
  have hle : lp.length ≤ (lp.map (·.2.length)).sum := by
    have he : ∀ e ∈ lp, 1 ≤ e.2.length := fun e he => by
      have := (h.evs e he).2.2
      exact List.length_pos_iff.mpr this
    clear h h0 h1 h2 h3 hc hh hs
    induction lp with
    | nil => simp
    | cons e lp ih =>
      have := ih fun x hx => he x (List.mem_cons_of_mem _ hx)
      have := he e (List.mem_cons_self ..)
      simp; omega
  have hsum := h.sum
  refine ⟨⟨by omega, by omega, by omega, by omega⟩, by omega, fun e he => ?_, by omega⟩
  obtain ⟨_, h2', _⟩ := h.evs e he
  rw [h2', List.length_map]
  have := List.length_filter_le (fun p : PR => decide (p.tm = e.1 - now)) P
  omega
theorem sim_next {S : QS} {lp : List (Int × List (Nat × Int))} {P : List PR} {C now : Int} {n : Nat} (h : Sim S lp P C now n) {x due : Int} (hx : NextIs (lp.map (·.1)) x) (hd : NextIs ((P.filter fun p => decide (0 < p.tm)).map (·.tm)) due) :
    (due = -1 ∧ x = -1 ∧ lp = [] ∧ (P.filter fun p => decide (0 < p.tm)) = []) ∨ (0 < due ∧ x = now + due ∧ lp ≠ []) := by
  have hone : ∀ e ∈ lp, ∃ p ∈ P, 0 < p.tm ∧ p.tm = e.1 - now := fun e he => by
    obtain ⟨h1, h2, h3⟩ := h.evs e he
    rw [h2] at h3
    obtain ⟨y, hy⟩ := List.exists_mem_of_ne_nil _ h3
    obtain ⟨p, hp, _⟩ := List.mem_map.mp hy
    obtain ⟨hp1, hp2⟩ := List.mem_filter.mp hp
    have := of_decide_eq_true hp2
    exact ⟨p, hp1, by omega, this⟩
  rcases hd with ⟨hd1, hd2⟩ | ⟨hd1, hd2⟩
  · left
    have hP := List.map_eq_nil_iff.mp hd1
    have hl : lp = [] := by
      by_cases hl : lp = []
      · exact hl
      · obtain ⟨e, he⟩ := List.exists_mem_of_ne_nil _ hl
        obtain ⟨p, hp, hp1, _⟩ := hone e he
        exact absurd (List.mem_filter.mpr ⟨hp, decide_eq_true hp1⟩) (by rw [hP]; exact List.not_mem_nil)
    refine ⟨hd2, ?_, hl, hP⟩
    rcases hx with ⟨_, hx2⟩ | ⟨hx1, _⟩
    · exact hx2
    · rw [hl] at hx1; simp at hx1
  · right
    obtain ⟨p, hp, rfl⟩ := List.mem_map.mp hd1
    obtain ⟨hp1, hp2⟩ := List.mem_filter.mp hp
    have hp2 := of_decide_eq_true hp2
    have hk := h.keys p hp1 hp2
    rcases hx with ⟨hx1, _⟩ | ⟨hx1, hx2⟩
    · rw [hx1] at hk; simp at hk
    · have h1 := hx2 _ hk
      obtain ⟨e, he, rfl⟩ := List.mem_map.mp hx1
      obtain ⟨q, hq, hq1, hq2⟩ := hone e he
      have h2 := hd2 q.tm (List.mem_map.mpr ⟨q, List.mem_filter.mpr ⟨hq, decide_eq_true hq1⟩, rfl⟩)
      exact ⟨hp2, by omega, fun hl => by rw [hl] at he; simp at he⟩
end Mine
end

noncomputable section
set_option maxHeartbeats 1000000
namespace Mine
theorem map_inj {α β : Type} {f : α → β} : ∀ {l : List α}, (l.map f).Nodup → ∀ {x y}, x ∈ l → y ∈ l → f x = f y → x = y
  | [], _, _, _, h, _, _ => by cases h
  | a :: l, hn, x, y, hx, hy, e => by
    rw [List.map_cons, List.nodup_cons] at hn
    rcases List.mem_cons.mp hx with h1 | h1 <;> rcases List.mem_cons.mp hy with h2 | h2
    · rw [h1, h2]
    · exact absurd (List.mem_map.mpr ⟨y, h2, by rw [← e, h1]⟩) hn.1
    · exact absurd (List.mem_map.mpr ⟨x, h1, by rw [e, h2]⟩) hn.1
    · exact map_inj hn.2 h1 h2 e
theorem csR_cons (p : PR) (P : List PR) (r : Int) : csR (p :: P) r = csR [p] r ++ csR P r := csR_app [p] P r
theorem actv_cases (k : Int) (p : PR) : (actv k p).tm = p.tm ∧ (actv k p).cg = p.cg ∧ (actv k p).st = p.st ∧ ((p.tm = 0 ∧ p.rg = k ∧ (actv k p).rg = 0) ∨ (¬ (p.tm = 0 ∧ p.rg = k) ∧ (actv k p).rg = p.rg)) := by
  unfold actv
  by_cases h : p.tm = 0 ∧ p.rg = k
  · rw [if_pos h]; exact ⟨rfl, rfl, rfl, .inl ⟨h.1, h.2, rfl⟩⟩
  · rw [if_neg h]; exact ⟨rfl, rfl, rfl, .inr ⟨h, rfl⟩⟩
theorem csR_one' (p : PR) (r : Int) : csR [p] r = if p.tm = 0 ∧ p.rg = r then [(p.cg, p.st)] else [] := by
  by_cases h : p.tm = 0 ∧ p.rg = r
  · rw [if_pos h, csR_one h.1 h.2]
  · rw [if_neg h, csR_skip h]
theorem csR_act0 {k : Int} (hk : k ≠ 0) : ∀ {P : List PR}, csR P 0 = [] → csR (P.map (actv k)) 0 = csR P k
  | [], _ => rfl
  | p :: P, h => by
    rw [csR_cons, List.append_eq_nil_iff] at h
    rw [List.map_cons, csR_cons, csR_cons p, csR_act0 hk h.2]
    congr 1
    obtain ⟨h1, h2, h3, h4⟩ := actv_cases k p
    have h0 : ¬ (p.tm = 0 ∧ p.rg = 0) := fun q => by have := h.1; rw [csR_one q.1 q.2] at this; cases this
    rw [csR_one', csR_one', h1, h2, h3]
    rcases h4 with ⟨a, b, c⟩ | ⟨a, b⟩
    · rw [if_pos ⟨a, c⟩, if_pos ⟨a, b⟩]
    · rw [if_neg (by rw [b]; exact h0), if_neg a]
theorem csR_actk {k : Int} (hk : k ≠ 0) : ∀ {P : List PR}, csR (P.map (actv k)) k = []
  | [] => rfl
  | p :: P => by
    rw [List.map_cons, csR_cons, csR_actk hk, List.append_nil, csR_one', if_neg]
    obtain ⟨h1, h2, h3, h4⟩ := actv_cases k p
    rw [h1]
    rintro ⟨a, b⟩
    rcases h4 with ⟨_, _, c⟩ | ⟨c, d⟩
    · omega
    · exact c ⟨a, by rw [← d]; exact b⟩
theorem csR_acto {k r : Int} (hr : r ≠ 0) (hrk : r ≠ k) : ∀ {P : List PR}, csR (P.map (actv k)) r = csR P r
  | [] => rfl
  | p :: P => by
    rw [List.map_cons, csR_cons, csR_cons p, csR_acto hr hrk]
    congr 1
    obtain ⟨h1, h2, h3, h4⟩ := actv_cases k p
    rw [csR_one', csR_one', h1, h2, h3]
    rcases h4 with ⟨a, b, c⟩ | ⟨a, b⟩
    · rw [if_neg (by omega), if_neg (by omega)]
    · rw [b]
theorem RegIs.of {P P' : List PR} {r r' : Int} {L : List Int} (h : RegIs P r L) (e : csR P' r' = csR P r) : RegIs P' r' L := by
  obtain ⟨A, a, b, c⟩ := h
  exact ⟨A, a, b, by rw [e]; exact c⟩
/-- the rows of a later time are not touched by what is done to the present -/
theorem later_act (k d : Int) (hd : 0 < d) (P : List PR) : ((P.map (actv k)).filter fun p => decide (p.tm = d)).map (fun p => (p.rg.toNat, p.st)) = (P.filter fun p => decide (p.tm = d)).map (fun p => (p.rg.toNat, p.st)) := by
  induction P with
  | nil => rfl
  | cons p P ih =>
    rw [List.map_cons, List.filter_cons, List.filter_cons, actv_tm]
    by_cases h : p.tm = d
    · rw [if_pos (decide_eq_true h), if_pos (decide_eq_true h), List.map_cons, List.map_cons, ih, actv_id k p (by omega)]
    · rw [if_neg (by simpa using h), if_neg (by simpa using h), ih]
theorem pos_act (k : Int) (P : List PR) : ((P.map (actv k)).filter fun p => decide (0 < p.tm)).length = (P.filter fun p => decide (0 < p.tm)).length := by
  induction P with
  | nil => rfl
  | cons p P ih =>
    rw [List.map_cons, List.filter_cons, List.filter_cons, actv_tm]
    split <;> simp only [List.length_cons, ih]
theorem cg_act (k : Int) (P : List PR) : (P.map (actv k)).map (·.cg) = P.map (·.cg) := by
  rw [List.map_map]
  exact List.map_congr_left fun p _ => (actv_cases k p).2.1
section
variable {S : QS} {lp : List (Int × List (Nat × Int))} {P : List PR} {C now : Int} {n : Nat}
theorem RegIs.empty {r : Int} {L : List Int} (h : RegIs P r L) : L = [] ↔ csR P r = [] := by
  rw [← List.length_eq_zero_iff, ← List.length_eq_zero_iff, h.len]
theorem sim_refill (h : Sim S lp P C now n) (hh : S.head = S.act.length) {least : Int} (hm : IsMin ((P.filter fun p => decide (p.tm = 0)).map (·.rg)) least) :
    Sim S.refill lp (P.map (actv least)) C now n ∧ 0 < S.refill.act.length := by
  have e0 : csR P 0 = [] := h.reg0.empty.mp (by rw [hh, List.drop_length])
  obtain ⟨p, hp, hpl⟩ := List.mem_map.mp hm.1
  obtain ⟨hp1, hp2⟩ := List.mem_filter.mp hp
  have hp2 := of_decide_eq_true hp2
  have hg := h.rgs p hp1
  have hlow : ∀ r, r < least → csR P r = [] := fun r hr => by
    by_cases hq : csR P r = []
    · exact hq
    · obtain ⟨x, hx⟩ := List.exists_mem_of_ne_nil _ hq
      obtain ⟨q, hq1, hq2, hq3, _⟩ := csR_mem hx
      have := hm.2 q.rg (List.mem_map.mpr ⟨q, List.mem_filter.mpr ⟨hq1, decide_eq_true hq2⟩, rfl⟩)
      omega
  have hin : csR P least ≠ [] := List.ne_nil_of_mem (csR_of hp1 hp2 hpl)
  have hne : least ≠ 0 := fun q => hin (q ▸ e0)
  have hcg : ((P.map (actv least)).map (·.cg)).Nodup := by rw [cg_act]; exact h.cgs
  have hcC : ∀ p ∈ P.map (actv least), p.cg < C := fun q hq => by
    obtain ⟨x, hx, rfl⟩ := List.mem_map.mp hq
    rw [(actv_cases least x).2.1]; exact h.cgC x hx
  have ht : ∀ p ∈ P.map (actv least), 0 ≤ p.tm ∧ p.tm ≤ 10 ^ 30 := fun q hq => by
    obtain ⟨x, hx, rfl⟩ := List.mem_map.mp hq
    rw [actv_tm]; exact h.tms x hx
  have hr : ∀ p ∈ P.map (actv least), 0 ≤ p.rg ∧ p.rg < 4 := fun q hq => by
    obtain ⟨x, hx, rfl⟩ := List.mem_map.mp hq
    have := h.rgs x hx
    rcases (actv_cases least x).2.2.2 with ⟨_, _, c⟩ | ⟨_, c⟩ <;> rw [c] <;> omega
  have hk : ∀ p ∈ P.map (actv least), 0 < p.tm → now + p.tm ∈ lp.map (·.1) := fun q hq => by
    obtain ⟨x, hx, rfl⟩ := List.mem_map.mp hq
    rw [actv_tm]; exact h.keys x hx
  have he : ∀ e ∈ lp, now < e.1 ∧ e.2 = ((P.map (actv least)).filter fun p => decide (p.tm = e.1 - now)).map (fun p => (p.rg.toNat, p.st)) ∧ e.2 ≠ [] := fun e he => by
    obtain ⟨h1, h2, h3⟩ := h.evs e he
    exact ⟨h1, by rw [later_act _ _ (by omega)]; exact h2, h3⟩
  have hs : (lp.map (·.2.length)).sum = ((P.map (actv least)).filter fun p => decide (0 < p.tm)).length := by rw [pos_act]; exact h.sum
  have hz : 0 + (P.map (actv least)).length ≤ n := by have := h.sz; rw [List.length_map]; omega
  have l1 := h.reg1.len
  have l2 := h.reg2.len
  have l3 := h.reg3.len
  have hpos : ∀ {r}, csR P r ≠ [] → 0 < (csR P r).length := fun q => List.length_pos_iff.mpr q
  have : least = 1 ∨ least = 2 ∨ least = 3 := by omega
  rcases this with rfl | rfl | rfl
  · have := hpos hin
    have hrf : S.refill = { S with head := 0, act := S.ina, ina := [] } := by unfold QS.refill; rw [if_pos (by omega)]
    rw [hrf]
    exact ⟨⟨h.hnow, Nat.zero_le _, h.reg1.of (csR_act0 hne e0), RegIs.nil (csR_actk hne), h.reg2.of (csR_acto (by decide) (by decide)), h.reg3.of (csR_acto (by decide) (by decide)), hcg, hcC, ht, hr, hk, he, h.knd, hs, hz⟩, by show 0 < S.ina.length; omega⟩
  · have := hpos hin
    have e1 := hlow 1 (by decide)
    have e1' := h.reg1.empty.mpr e1
    have hrf : S.refill = { S with head := 0, act := S.nba, nba := [] } := by unfold QS.refill; rw [if_neg (by rw [e1']; simp), if_pos (by omega)]
    rw [hrf]
    exact ⟨⟨h.hnow, Nat.zero_le _, h.reg2.of (csR_act0 hne e0), h.reg1.of (csR_acto (by decide) (by decide)), RegIs.nil (csR_actk hne), h.reg3.of (csR_acto (by decide) (by decide)), hcg, hcC, ht, hr, hk, he, h.knd, hs, hz⟩, by show 0 < S.nba.length; omega⟩
  · have := hpos hin
    have e1' := h.reg1.empty.mpr (hlow 1 (by decide))
    have e2' := h.reg2.empty.mpr (hlow 2 (by decide))
    have hrf : S.refill = { S with head := 0, act := S.late, late := [] } := by unfold QS.refill; rw [if_neg (by rw [e1']; simp), if_neg (by rw [e2']; simp)]
    rw [hrf]
    exact ⟨⟨h.hnow, Nat.zero_le _, h.reg3.of (csR_act0 hne e0), h.reg1.of (csR_acto (by decide) (by decide)), h.reg2.of (csR_acto (by decide) (by decide)), RegIs.nil (csR_actk hne), hcg, hcC, ht, hr, hk, he, h.knd, hs, hz⟩, by show 0 < S.late.length; omega⟩
theorem sim_head (h : Sim S lp P C now n) (hh : S.head < S.act.length) {pre post : List PR} {r : PR} (hP : P = pre ++ r :: post) (hm : IsMin ((csR P 0).map (·.1)) r.cg) :
    r.st = S.act.getD S.head 0 ∧ Sim { S with head := S.head + 1 } lp (pre ++ post) C now n := by
  obtain ⟨A, a1, a2, a3⟩ := h.reg0
  have hd : S.act.drop S.head = S.act[S.head] :: S.act.drop (S.head + 1) := List.drop_eq_getElem_cons hh
  rw [hd] at a2
  obtain ⟨c0, s0, A', rfl⟩ : ∃ c0 s0 A', A = (c0, s0) :: A' := by
    cases A with
    | nil => cases a2
    | cons x A' => exact ⟨x.1, x.2, A', rfl⟩
  simp only [List.map_cons, List.cons.injEq] at a2
  -- r is the head
  obtain ⟨x, hx, hxr⟩ := List.mem_map.mp hm.1
  obtain ⟨q, hq, hq1, hq2, rfl⟩ := csR_mem hx
  have hrP : r ∈ P := by rw [hP]; simp
  have hqr : q = r := by
    exact map_inj h.cgs hq hrP hxr
  subst hqr
  have hrA : (q.cg, q.st) ∈ (c0, s0) :: A' := a3.mem_iff.mpr hx
  have hle : q.cg ≤ c0 := hm.2 c0 (List.mem_map.mpr ⟨(c0, s0), a3.mem_iff.mp (List.mem_cons_self ..), rfl⟩)
  have hhd : (q.cg, q.st) = (c0, s0) := by
    rcases List.mem_cons.mp hrA with e | e
    · exact e
    · have := (List.pairwise_cons.mp a1).1 _ e
      simp only at this; omega
  cases hhd
  have hcs : ∀ r', csR P r' = csR pre r' ++ (csR [q] r' ++ csR post r') := fun r' => by rw [hP, csR_app, csR_cons]
  have hoth : ∀ {r' : Int} {L}, r' ≠ 0 → RegIs P r' L → RegIs (pre ++ post) r' L := fun hne hR => hR.of (by rw [hcs, csR_skip (by omega), csR_app, List.nil_append])
  have hsub : ∀ p ∈ pre ++ post, p ∈ P := fun p hp => by
    rw [hP]; simp only [List.mem_append, List.mem_cons] at hp ⊢
    rcases hp with hp | hp
    · exact .inl hp
    · exact .inr (.inr hp)
  have hfil : ∀ f : PR → Bool, f q = false → (pre ++ post).filter f = P.filter f := fun f hf => by
    rw [hP, List.filter_append, List.filter_append, List.filter_cons, hf]; simp
  refine ⟨?_, h.hnow, hh, ⟨A', (List.pairwise_cons.mp a1).2, a2.2, ?_⟩, hoth (by decide) h.reg1, hoth (by decide) h.reg2, hoth (by decide) h.reg3, ?_, fun p hp => h.cgC p (hsub p hp), fun p hp => h.tms p (hsub p hp), fun p hp => h.rgs p (hsub p hp), fun p hp => h.keys p (hsub p hp), ?_, h.knd, ?_, ?_⟩
  · rw [List.getD_eq_getElem?_getD, List.getElem?_eq_getElem hh]; exact a2.1
  · rw [hcs, csR_one hq1 hq2] at a3
    have := a3.trans (List.perm_middle (l₁ := csR pre 0) (a := (q.cg, q.st)) (l₂ := csR post 0))
    rw [csR_app]
    exact this.cons_inv
  · have hc := h.cgs
    rw [hP] at hc
    refine List.Sublist.nodup ?_ hc
    simp only [List.map_append, List.map_cons]
    exact List.Sublist.append (List.Sublist.refl _) (List.sublist_cons_self ..)
  · intro e he
    obtain ⟨h1, h2, h3⟩ := h.evs e he
    refine ⟨h1, ?_, h3⟩
    rw [hfil _ (by simp; omega)]; exact h2
  · rw [hfil _ (by simp; omega)]; exact h.sum
  · have := h.sz
    rw [hP] at this
    simp only [List.length_append, List.length_cons] at this ⊢
    omega
end
end Mine
end

noncomputable section
set_option maxHeartbeats 1000000
namespace Mine
noncomputable def newR (step r : Int) : Int → List PR → List (Int × Int)
  | _, [] => []
  | C, p :: ps => if p.tm = step then (if p.rg = r then (C, p.st) :: newR step r (C + 1) ps else newR step r (C + 1) ps) else newR step r C ps
section
variable {step r : Int}
theorem newR_perm (hs : 0 < step) : ∀ (P : List PR) (C : Int), (∀ p ∈ P, 0 ≤ p.tm ∧ (0 < p.tm → step ≤ p.tm)) → (csR P r ++ newR step r C P).Perm (csR ((renum step C P).map (shift step)) r)
  | [], _, _ => List.Perm.refl _
  | p :: P, C, ht => by
    have hp := ht p (List.mem_cons_self ..)
    have ih := fun C => newR_perm hs P C fun q hq => ht q (List.mem_cons_of_mem _ hq)
    unfold renum newR
    rw [csR_cons]
    by_cases h : p.tm = step
    · rw [if_pos h, if_pos h, List.map_cons, csR_cons (shift step { p with cg := C })]
      have e1 : csR [p] r = [] := csR_skip (by omega)
      have e2 : shift step { p with cg := C } = ⟨0, p.rg, C, p.st⟩ := by
        unfold shift; rw [if_pos (by show 0 < p.tm; omega)]
        show (⟨p.tm - step, _, _, _⟩ : PR) = _
        rw [show p.tm - step = 0 by omega]
      rw [e1, e2, List.nil_append]
      by_cases hr : p.rg = r
      · rw [if_pos hr, csR_one (p := ⟨0, p.rg, C, p.st⟩) rfl hr]
        exact List.perm_middle.trans (List.Perm.cons _ (ih (C + 1)))
      · rw [if_neg hr, csR_skip (p := ⟨0, p.rg, C, p.st⟩) (fun q => hr q.2)]
        exact ih (C + 1)
    · rw [if_neg h, if_neg h, List.map_cons, csR_cons (shift step p)]
      have e : csR [shift step p] r = csR [p] r := by
        unfold shift
        by_cases hp0 : 0 < p.tm
        · rw [if_pos hp0, csR_skip (fun q => by have := q.1; simp only at this; omega), csR_skip (by omega)]
        · rw [if_neg hp0]
      rw [e, List.append_assoc]
      exact List.Perm.append_left _ (ih C)
theorem newR_ge : ∀ (P : List PR) (C : Int), ∀ x ∈ newR step r C P, C ≤ x.1
  | [], _, _, h => by simp [newR] at h
  | p :: P, C, x, h => by
    unfold newR at h
    split at h
    · split at h
      · rcases List.mem_cons.mp h with h | h
        · rw [h]; exact Int.le_refl _
        · have := newR_ge P (C + 1) x h; omega
      · have := newR_ge P (C + 1) x h; omega
    · exact newR_ge P C x h
theorem newR_sorted : ∀ (P : List PR) (C : Int), (newR step r C P).Pairwise (fun x y => x.1 < y.1)
  | [], _ => List.Pairwise.nil
  | p :: P, C => by
    unfold newR
    split
    · split
      · exact List.pairwise_cons.mpr ⟨fun x hx => by have := newR_ge P (C + 1) x hx; simp only; omega, newR_sorted P (C + 1)⟩
      · exact newR_sorted P (C + 1)
    · exact newR_sorted P C
theorem newR_snd (hr : 0 ≤ r) : ∀ (P : List PR) (C : Int), (∀ p ∈ P, 0 ≤ p.rg) → (newR step r C P).map (·.2) = (((P.filter fun p => decide (p.tm = step)).map fun p => (p.rg.toNat, p.st)).filter fun x => decide (x.1 = r.toNat)).map (·.2)
  | [], _, _ => rfl
  | p :: P, C, hg => by
    have ih := fun C => newR_snd hr P C fun q hq => hg q (List.mem_cons_of_mem _ hq)
    have hp := hg p (List.mem_cons_self ..)
    unfold newR
    by_cases h : p.tm = step
    · rw [if_pos h, List.filter_cons, if_pos (decide_eq_true h), List.map_cons, List.filter_cons]
      by_cases hrr : p.rg = r
      · rw [if_pos hrr, if_pos (by simp [hrr]), List.map_cons, List.map_cons, ih]
      · rw [if_neg hrr, if_neg (by simp; omega), ih]
    · rw [if_neg h, List.filter_cons, if_neg (by simpa using h), ih]
theorem renum_mem : ∀ (P : List PR) (C : Int), ∀ x ∈ renum step C P, (x ∈ P ∧ x.tm ≠ step) ∨ (C ≤ x.cg ∧ x.cg < C + cntS step P ∧ ∃ p ∈ P, x = { p with cg := x.cg })
  | [], _, _, h => by simp [renum] at h
  | p :: P, C, x, h => by
    unfold renum at h
    by_cases hp : p.tm = step
    · rw [if_pos hp] at h
      have hc : cntS step (p :: P) = cntS step P + 1 := by simp [cntS, hp]
      rcases List.mem_cons.mp h with h | h
      · right; rw [h]; exact ⟨Int.le_refl _, by rw [hc]; show C < _; omega, p, List.mem_cons_self .., rfl⟩
      · rcases renum_mem P (C + 1) x h with ⟨a, b⟩ | ⟨a, b, q, c, d⟩
        · exact .inl ⟨List.mem_cons_of_mem _ a, b⟩
        · exact .inr ⟨by omega, by rw [hc]; omega, q, List.mem_cons_of_mem _ c, d⟩
    · rw [if_neg hp] at h
      have hc : cntS step (p :: P) = cntS step P := by simp [cntS, hp]
      rcases List.mem_cons.mp h with h | h
      · left; rw [h]; exact ⟨List.mem_cons_self .., hp⟩
      · rcases renum_mem P C x h with ⟨a, b⟩ | ⟨a, b, q, c, d⟩
        · exact .inl ⟨List.mem_cons_of_mem _ a, b⟩
        · exact .inr ⟨a, by rw [hc]; exact b, q, List.mem_cons_of_mem _ c, d⟩
theorem renum_nodup : ∀ (P : List PR) (C : Int), (P.map (·.cg)).Nodup → (∀ p ∈ P, p.cg < C) → ((renum step C P).map (·.cg)).Nodup
  | [], _, _, _ => List.nodup_nil
  | p :: P, C, hn, hC => by
    rw [List.map_cons, List.nodup_cons] at hn
    have hC' := fun q hq => hC q (List.mem_cons_of_mem p hq)
    have hp := hC p (List.mem_cons_self ..)
    unfold renum
    split
    · rw [List.map_cons]
      refine List.nodup_cons.mpr ⟨fun q => ?_, renum_nodup P (C + 1) hn.2 fun q hq => by have := hC' q hq; omega⟩
      obtain ⟨x, hx, hxe⟩ := List.mem_map.mp q
      simp only at hxe
      rcases renum_mem P (C + 1) x hx with ⟨a, _⟩ | ⟨a, _⟩
      · have := hC' x a; omega
      · omega
    · rw [List.map_cons]
      refine List.nodup_cons.mpr ⟨fun q => ?_, renum_nodup P C hn.2 hC'⟩
      obtain ⟨x, hx, hxe⟩ := List.mem_map.mp q
      rcases renum_mem P C x hx with ⟨a, _⟩ | ⟨a, _⟩
      · exact hn.1 (List.mem_map.mpr ⟨x, a, hxe⟩)
      · omega
theorem shift_cg (p : PR) : (shift step p).cg = p.cg := by unfold shift; split <;> rfl
theorem shift_rg (p : PR) : (shift step p).rg = p.rg := by unfold shift; split <;> rfl
theorem later_adv (hs : 0 < step) (d : Int) (hd : 0 < d) : ∀ (P : List PR) (C : Int), (∀ p ∈ P, 0 ≤ p.tm) → (((renum step C P).map (shift step)).filter fun p => decide (p.tm = d)).map (fun p => (p.rg.toNat, p.st)) = (P.filter fun p => decide (p.tm = d + step)).map (fun p => (p.rg.toNat, p.st))
  | [], _, _ => rfl
  | p :: P, C, ht => by
    have ih := fun C => later_adv hs d hd P C fun q hq => ht q (List.mem_cons_of_mem _ hq)
    have hp := ht p (List.mem_cons_self ..)
    unfold renum
    by_cases h : p.tm = step
    · rw [if_pos h, List.map_cons, List.filter_cons, List.filter_cons (x := p), if_neg, if_neg, ih]
      · simp; omega
      · unfold shift
        rw [if_pos (by show 0 < p.tm; omega)]
        show ¬ decide (p.tm - step = d) = true
        simp; omega
    · rw [if_neg h, List.map_cons, List.filter_cons, List.filter_cons (x := p)]
      by_cases hq : p.tm = d + step
      · have e : shift step p = { p with tm := p.tm - step } := by unfold shift; exact if_pos (by omega)
        rw [e, if_pos (by show decide (p.tm - step = d) = true; simp; omega), if_pos (by simpa using hq), List.map_cons, List.map_cons, ih]
      · rw [if_neg, if_neg (by simpa using hq), ih]
        unfold shift
        split
        · show ¬ decide (p.tm - step = d) = true
          simp; omega
        · simp; omega
theorem pos_adv (hs : 0 < step) : ∀ (P : List PR) (C : Int), (∀ p ∈ P, 0 ≤ p.tm ∧ (0 < p.tm → step ≤ p.tm)) → (((renum step C P).map (shift step)).filter fun p => decide (0 < p.tm)).length + (P.filter fun p => decide (p.tm = step)).length = (P.filter fun p => decide (0 < p.tm)).length
  | [], _, _ => rfl
  | p :: P, C, ht => by
    have ih := fun C => pos_adv hs P C fun q hq => ht q (List.mem_cons_of_mem _ hq)
    have hp := ht p (List.mem_cons_self ..)
    unfold renum
    by_cases h : p.tm = step
    · have e : shift step { p with cg := C } = ⟨p.tm - step, p.rg, C, p.st⟩ := by unfold shift; exact if_pos (by show 0 < p.tm; omega)
      rw [if_pos h, List.map_cons, List.filter_cons, List.filter_cons (x := p), List.filter_cons (x := p), e, if_neg (by show ¬ decide (0 < p.tm - step) = true; simp; omega), if_pos (by simpa using h), if_pos (by simp; omega)]
      have := ih (C + 1)
      simp only [List.length_cons]; omega
    · rw [if_neg h, List.map_cons, List.filter_cons, List.filter_cons (x := p), List.filter_cons (x := p), if_neg (show ¬ decide (p.tm = step) = true by simpa using h)]
      have := ih C
      by_cases hq : 0 < p.tm
      · have e : shift step p = { p with tm := p.tm - step } := by unfold shift; exact if_pos hq
        rw [e, if_pos (by show decide (0 < p.tm - step) = true; simp; omega), if_pos (by simpa using hq)]
        simp only [List.length_cons]; omega
      · have e : shift step p = p := by unfold shift; exact if_neg hq
        rw [e, if_neg (by simpa using hq), if_neg (by simpa using hq)]; omega
end
def addP (S : QS) (evs : List (Nat × Int)) : QS := evs.foldl (fun S x => S.add x.1 x.2) S
theorem addAll_plain (S : QS) (e : LE) : S.addAll e.rows = addP S e.abs := by
  unfold QS.addAll addP LE.abs
  rw [List.foldl_map]
def evR (evs : List (Nat × Int)) (r : Nat) : List Int := (evs.filter fun x => decide (x.1 = r)).map (·.2)
theorem evR_cons (x : Nat × Int) (evs : List (Nat × Int)) (r : Nat) : evR (x :: evs) r = (if x.1 = r then [x.2] else []) ++ evR evs r := by
  unfold evR; rw [List.filter_cons]
  by_cases h : x.1 = r
  · rw [if_pos (decide_eq_true h), if_pos h]; rfl
  · rw [if_neg (by simpa using h), if_neg h]; rfl
theorem addP_is : ∀ (evs : List (Nat × Int)) (S : QS), (∀ x ∈ evs, x.1 < 4) → addP S evs = { now := S.now, head := S.head, act := S.act ++ evR evs 0, ina := S.ina ++ evR evs 1, nba := S.nba ++ evR evs 2, late := S.late ++ evR evs 3 }
  | [], S, _ => by simp [addP, evR]
  | x :: evs, S, h => by
    have h0 := h x (List.mem_cons_self ..)
    have ih := addP_is evs (S.add x.1 x.2) fun y hy => h y (List.mem_cons_of_mem _ hy)
    have e : addP S (x :: evs) = addP (S.add x.1 x.2) evs := rfl
    rw [e, ih]
    obtain ⟨r, v⟩ := x
    simp only [evR_cons]
    obtain rfl | rfl | rfl | rfl : r = 0 ∨ r = 1 ∨ r = 2 ∨ r = 3 := by simp only at h0; omega
    all_goals simp [QS.add]
section
variable {S : QS} {lp : List (Int × List (Nat × Int))} {P : List PR} {C now : Int} {n : Nat}
theorem RegIs.adv {step : Int} {r : Nat} {L : List Int} (hs : 0 < step) (h : RegIs P r L) (hC : ∀ p ∈ P, p.cg < C) (ht : ∀ p ∈ P, 0 ≤ p.tm ∧ (0 < p.tm → step ≤ p.tm)) (hg : ∀ p ∈ P, 0 ≤ p.rg) {evs : List (Nat × Int)} (he : evs = (P.filter fun p => decide (p.tm = step)).map fun p => (p.rg.toNat, p.st)) :
    RegIs ((renum step C P).map (shift step)) r (L ++ evR evs r) := by
  obtain ⟨A, a1, rfl, a3⟩ := h
  refine ⟨A ++ newR step r C P, ?_, ?_, (a3.append_right _).trans (newR_perm hs P C ht)⟩
  · refine List.pairwise_append.mpr ⟨a1, newR_sorted P C, fun x hx y hy => ?_⟩
    obtain ⟨p, hp, _, _, rfl⟩ := csR_mem (a3.mem_iff.mp hx)
    have := newR_ge P C y hy
    have := hC p hp
    simp only; omega
  · rw [List.map_append, newR_snd (by omega) P C hg, he]
    simp [evR]
theorem sim_advance (h : Sim S lp P C now n) {a b : List (Int × List (Nat × Int))} {T : Int} {evs : List (Nat × Int)} (hl : lp = a ++ (T, evs) :: b) (hmin : ∀ e ∈ lp, T ≤ e.1) {step : Int} (hst : NextIs ((P.filter fun p => decide (0 < p.tm)).map (·.tm)) step) :
    T = now + step ∧ 0 < step ∧ Sim { addP S evs with now := T } (a ++ b) ((renum step C P).map (shift step)) (C + cntS step P) T n := by
  have hTm : (T, evs) ∈ lp := by rw [hl]; simp
  have hx : NextIs (lp.map (·.1)) T := .inr ⟨List.mem_map.mpr ⟨_, hTm, rfl⟩, fun x hx => by obtain ⟨e, he, rfl⟩ := List.mem_map.mp hx; exact hmin e he⟩
  obtain ⟨hs, hT⟩ : 0 < step ∧ T = now + step := by
    rcases sim_next h hx hst with ⟨_, _, q, _⟩ | ⟨q1, q2, _⟩
    · rw [q] at hTm; cases hTm
    · exact ⟨q1, q2⟩
  have hge : ∀ p ∈ P, 0 ≤ p.tm ∧ (0 < p.tm → step ≤ p.tm) := fun p hp => ⟨(h.tms p hp).1, fun hq => by
    rcases hst with ⟨q, _⟩ | ⟨_, q⟩
    · exact absurd (List.mem_map.mpr ⟨p, List.mem_filter.mpr ⟨hp, decide_eq_true hq⟩, rfl⟩) (by rw [q]; exact List.not_mem_nil)
    · exact q _ (List.mem_map.mpr ⟨p, List.mem_filter.mpr ⟨hp, decide_eq_true hq⟩, rfl⟩)⟩
  have hg0 : ∀ p ∈ P, 0 ≤ p.rg := fun p hp => (h.rgs p hp).1
  obtain ⟨hT1, hT2, hT3⟩ := h.evs _ hTm
  simp only at hT1 hT2
  rw [show T - now = step by omega] at hT2
  have h4 : ∀ x ∈ evs, x.1 < 4 := fun x hx => by
    rw [hT2] at hx
    obtain ⟨p, hp, rfl⟩ := List.mem_map.mp hx
    have := h.rgs p (List.mem_filter.mp hp).1
    simp only; omega
  have hP2 : ∀ y ∈ (renum step C P).map (shift step), ∃ p ∈ P, y.rg = p.rg ∧ 0 ≤ y.tm ∧ y.tm ≤ p.tm ∧ (0 < y.tm → p.tm = y.tm + step) ∧ y.cg < C + cntS step P := fun y hy => by
    obtain ⟨x, hx, rfl⟩ := List.mem_map.mp hy
    rw [shift_rg, shift_cg]
    have key : ∀ z : PR, 0 ≤ z.tm → (0 < z.tm → step ≤ z.tm) → 0 ≤ (shift step z).tm ∧ (shift step z).tm ≤ z.tm ∧ (0 < (shift step z).tm → z.tm = (shift step z).tm + step) := fun z hz hz2 => by
      unfold shift
      by_cases hq : 0 < z.tm
      · rw [if_pos hq]
        have := hz2 hq
        exact ⟨by show 0 ≤ z.tm - step; omega, by show z.tm - step ≤ z.tm; omega, fun _ => by show z.tm = z.tm - step + step; omega⟩
      · rw [if_neg hq]; exact ⟨hz, Int.le_refl _, fun q => absurd q hq⟩
    rcases renum_mem P C x hx with ⟨q1, q2⟩ | ⟨q1, q2, p, q3, q4⟩
    · have := hge x q1
      have := h.cgC x q1
      obtain ⟨k1, k2, k3⟩ := key x (by omega) (by omega)
      exact ⟨x, q1, rfl, k1, k2, k3, by omega⟩
    · have h1 := hge p q3
      have e1 : x.tm = p.tm := by rw [q4]
      have e2 : x.rg = p.rg := by rw [q4]
      rw [← e1] at h1
      obtain ⟨k1, k2, k3⟩ := key x h1.1 h1.2
      exact ⟨p, q3, e2, k1, by omega, fun hq => by have := k3 hq; omega, q2⟩
  have hkn := h.knd
  rw [hl, List.map_append, List.map_cons] at hkn
  have hTa : T ∉ a.map (·.1) := fun q => (List.nodup_append.mp hkn).2.2 T q T (List.mem_cons_self ..) rfl
  have hTb : T ∉ b.map (·.1) := (List.nodup_cons.mp (List.nodup_append.mp hkn).2.1).1
  refine ⟨hT, hs, ?_⟩
  rw [addP_is evs S h4]
  refine ⟨rfl, ?_, ?_, h.reg1.adv (r := 1) hs h.cgC hge hg0 hT2, h.reg2.adv (r := 2) hs h.cgC hge hg0 hT2, h.reg3.adv (r := 3) hs h.cgC hge hg0 hT2, ?_, ?_, ?_, ?_, ?_, ?_, ?_, ?_, ?_⟩
  · have := h.head; show S.head ≤ (S.act ++ evR evs 0).length; rw [List.length_append]; omega
  · show RegIs _ 0 (List.drop S.head (S.act ++ evR evs 0))
    rw [List.drop_append_of_le_length h.head]
    exact h.reg0.adv (r := 0) hs h.cgC hge hg0 hT2
  · rw [List.map_map]
    have : ((fun x : PR => x.cg) ∘ shift step) = fun x => x.cg := funext fun p => shift_cg p
    rw [this]; exact renum_nodup P C h.cgs h.cgC
  · intro y hy; obtain ⟨p, _, _, _, _, _, q⟩ := hP2 y hy; exact q
  · intro y hy
    obtain ⟨p, hp, _, q1, q2, _, _⟩ := hP2 y hy
    have := h.tms p hp
    exact ⟨q1, Int.le_trans q2 this.2⟩
  · intro y hy; obtain ⟨p, hp, q, _⟩ := hP2 y hy; rw [q]; exact h.rgs p hp
  · intro y hy hy0
    obtain ⟨p, hp, _, _, _, q, _⟩ := hP2 y hy
    have q := q hy0
    have hk := h.keys p hp (by omega)
    rw [hl, show now + p.tm = T + y.tm by omega] at hk
    simp only [List.map_append, List.map_cons, List.mem_append, List.mem_cons] at hk ⊢
    rcases hk with hk | hk | hk
    · exact .inl hk
    · omega
    · exact .inr hk
  · intro e he
    have heL : e ∈ lp := by
      rw [hl]; simp only [List.mem_append, List.mem_cons] at he ⊢
      rcases he with he | he
      · exact .inl he
      · exact .inr (.inr he)
    obtain ⟨e1, e2, e3⟩ := h.evs e heL
    have hne : e.1 ≠ T := fun q => by
      rcases List.mem_append.mp he with he | he
      · exact hTa (q ▸ List.mem_map.mpr ⟨e, he, rfl⟩)
      · exact hTb (q ▸ List.mem_map.mpr ⟨e, he, rfl⟩)
    have := hmin e heL
    refine ⟨by omega, ?_, e3⟩
    rw [later_adv hs (e.1 - T) (by omega) P C (fun p hp => (h.tms p hp).1), show e.1 - T + step = e.1 - now by omega]
    exact e2
  · rw [List.map_append]
    refine List.Sublist.nodup ?_ hkn
    exact List.Sublist.append (List.Sublist.refl _) (List.sublist_cons_self ..)
  · have h1 := h.sum
    have h2 := pos_adv hs P C hge
    have h3 : evs.length = (P.filter fun p => decide (p.tm = step)).length := by rw [hT2, List.length_map]
    rw [hl] at h1
    simp only [List.map_append, List.map_cons, List.sum_append, List.sum_cons] at h1 ⊢
    omega
  · have := h.sz
    simp only [List.length_map, renum_len]
    exact this
end
end Mine
end

noncomputable section
set_option maxHeartbeats 1000000
namespace Mine
theorem pl_fr (rows : List MR) : (fr rows).map MR.pl = (rows.map MR.pl).filter fun p => decide (p.tm = 0) := by
  unfold fr
  rw [List.filter_map]
  rfl
theorem pl_rg (rows : List MR) : (fr rows).map (·.rg) = ((rows.map MR.pl).filter fun p => decide (p.tm = 0)).map (·.rg) := by
  rw [← pl_fr, List.map_map]; rfl
theorem pl_pos (rows : List MR) : (rows.filter fun r => decide (0 < r.tm)).map (·.tm) = ((rows.map MR.pl).filter fun p => decide (0 < p.tm)).map (·.tm) := by
  rw [List.filter_map, List.map_map]; rfl
theorem pl_cs (rows : List MR) : ((fr rows).filter fun r => decide (r.rg = 0)).map (·.cg) = (csR (rows.map MR.pl) 0).map (·.1) := by
  unfold csR fr
  rw [List.filter_map, List.map_map, List.map_map, List.filter_filter]
  have : (fun r : MR => decide (r.rg = 0) && decide (r.tm = 0)) = ((fun p : PR => decide (p.tm = 0 ∧ p.rg = 0)) ∘ MR.pl) := by
    funext r
    show _ = decide (r.tm = 0 ∧ r.rg = 0)
    rw [Bool.and_comm, ← Bool.decide_and]
  rw [this]; rfl
theorem act0 {P : List PR} : P.map (actv 0) = P := by
  have : ∀ p : PR, actv 0 p = p := fun p => by
    unfold actv
    split
    · rename_i h; rw [← h.2]
    · rfl
  rw [show actv 0 = id from funext this, List.map_id]
section
variable {S : QS} {lp : List (Int × List (Nat × Int))} {P : List PR} {C now : Int} {n : Nat}
theorem sim_none (h : Sim S lp P C now n) (hf : (P.filter fun p => decide (p.tm = 0)) = []) : S.taken = none ∧ Sim S.take lp P C now n := by
  have hcs : ∀ r, csR P r = [] := fun r => by
    by_cases hq : csR P r = []
    · exact hq
    · obtain ⟨x, hx⟩ := List.exists_mem_of_ne_nil _ hq
      obtain ⟨q, hq1, hq2, _, _⟩ := csR_mem hx
      exact absurd (List.mem_filter.mpr ⟨hq1, decide_eq_true hq2⟩) (by rw [hf]; exact List.not_mem_nil)
  have e0 := h.reg0.empty.mpr (hcs 0)
  have e1 := h.reg1.empty.mpr (hcs 1)
  have e2 := h.reg2.empty.mpr (hcs 2)
  have e3 := h.reg3.empty.mpr (hcs 3)
  have hh : ¬ S.head < S.act.length := by have := congrArg List.length e0; rw [List.length_drop] at this; simp at this; omega
  have hrf : S.refill = { S with head := 0, act := [], late := [] } := by
    unfold QS.refill
    rw [if_neg (by rw [e1]; simp), if_neg (by rw [e2]; simp), e3]
  have ht : S.take = { S with head := 0, act := [], late := [] } := by
    unfold QS.take; rw [if_neg hh, hrf]; simp
  have ht2 : S.taken = none := by unfold QS.taken; rw [if_neg hh, hrf]; simp
  refine ⟨ht2, ?_⟩
  rw [ht]
  exact ⟨h.hnow, Nat.zero_le _, RegIs.nil (hcs 0), h.reg1, h.reg2, RegIs.nil (hcs 3), h.cgs, h.cgC, h.tms, h.rgs, h.keys, h.evs, h.knd, h.sum, by have := h.sz; show 0 + P.length ≤ n; omega⟩
theorem sim_some (h : Sim S lp P C now n) {least : Int} (hm : IsMin ((P.filter fun p => decide (p.tm = 0)).map (·.rg)) least) {pre post : List PR} {r : PR} (hP : P.map (actv least) = pre ++ r :: post) (hf : IsMin ((csR (P.map (actv least)) 0).map (·.1)) r.cg) :
    S.taken = some r.st ∧ Sim S.take lp (pre ++ post) C now n := by
  by_cases hh : S.head < S.act.length
  · have hl : least = 0 := by
      obtain ⟨p, hp, hpl⟩ := List.mem_map.mp hm.1
      have hg := h.rgs p (List.mem_filter.mp hp).1
      have hne : csR P 0 ≠ [] := fun q => by
        have := congrArg List.length (h.reg0.empty.mpr q)
        rw [List.length_drop] at this; simp at this; omega
      obtain ⟨x, hx⟩ := List.exists_mem_of_ne_nil _ hne
      obtain ⟨q, hq1, hq2, hq3, _⟩ := csR_mem hx
      have := hm.2 q.rg (List.mem_map.mpr ⟨q, List.mem_filter.mpr ⟨hq1, decide_eq_true hq2⟩, rfl⟩)
      omega
    subst hl
    rw [act0] at hP hf
    obtain ⟨h1, h2⟩ := sim_head h hh hP hf
    constructor
    · unfold QS.taken; rw [if_pos hh, h1]
    · unfold QS.take; rw [if_pos hh]; exact h2
  · have hh' : S.head = S.act.length := by have := h.head; omega
    obtain ⟨h1, h2⟩ := sim_refill h hh' hm
    have hz := refill_head S
    obtain ⟨h3, h4⟩ := sim_head h1 (by rw [hz]; exact h2) hP hf
    rw [hz] at h3 h4
    constructor
    · unfold QS.taken; rw [if_neg hh, if_pos h2, h3]
    · unfold QS.take; rw [if_neg hh, if_pos h2]; exact h4
end
theorem sim_taken {S : QS} {lp : List (Int × List (Nat × Int))} {rows : List MR} {C now : Int} {n : Nat} (h : Sim S lp (rows.map MR.pl) C now n) {least : Int} {rs pre post : List MR} {r : MR} (ht : Taken rows least rs pre r post) :
    S.taken = some r.st ∧ Sim S.take lp ((pre ++ post).map MR.pl) C now n := by
  have h1 := ht.hleast
  have h2 := ht.found
  rw [pl_rg] at h1
  rw [pl_cs, ht.act] at h2
  have h3 : (rows.map MR.pl).map (actv least) = pre.map MR.pl ++ r.pl :: post.map MR.pl := by rw [← ht.act, ht.split]; simp
  have := sim_some h h1 (r := r.pl) h3 h2
  rw [List.map_append]; exact this
theorem sim_nonet {S : QS} {lp : List (Int × List (Nat × Int))} {rows : List MR} {C now : Int} {n : Nat} (h : Sim S lp (rows.map MR.pl) C now n) (hf : fr rows = []) : S.taken = none ∧ Sim S.take lp (rows.map MR.pl) C now n :=
  sim_none h (by rw [← pl_fr, hf]; rfl)
end Mine
end

noncomputable section
set_option maxHeartbeats 1000000
namespace Mine
section
variable {prog : Program} {w : World} {A : Around} {E : Value → Shared → Prop} {s : Shared} {env : Env} {h₀ : Heap} {x : Str} {body : List Stmt} {Q : Flow → Shared → Prop}
/-- over a range; y0's value is told, the names zs are not -/
theorem iterRX (y0 : Str) (zs : List Str) {r : Addr} {t₀ u₀ v₀ : Tok} {b : Int} {n : Nat} {m : Str → Option Value} {news : List (Addr × Obj)} {c₀ : Value} (J : Nat → Value → List (Addr × Obj) → Prop)
    (hh : A.handled = none) (hr : IsRange s.heap r 0 b 1 t₀ u₀ v₀) (hbn : b = (n : Int)) (hz : n ≤ 10 ^ 6) (F : Fr h₀ env.locals s.heap m) (N : News h₀ env.locals s.heap news) (hy : m y0 = some c₀) (hj : J 0 c₀ news) (hxy : y0 ≠ x)
    (turn : ∀ i t c (u : Str → Option Value) news₁ h tk I oI, i < n → J i c news₁ → (∀ p ∈ news₁, p.1 ≠ I) → Fr h₀ env.locals h (fun y => if y = x then some (.int (i : Nat) t) else if y = y0 then some c else if zs.contains y then u y else m y) → News h₀ env.locals h ((I, oI) :: news₁) →
      wpAny (model prog w) A (execs body env) (TPost h₀ env.locals I oI (fun m' n' => (∀ z, z ≠ x → z ≠ y0 → zs.contains z = false → m' z = m z) ∧ ∃ c', m' y0 = some c' ∧ J (i + 1) c' n') Q { s with heap := h, toks := tk }) E { s with heap := h, toks := tk })
    (done : ∀ c (u : Str → Option Value) news₁ h tk, J n c news₁ → Fr h₀ env.locals h (fun y => if y = x then u y else if y = y0 then some c else if zs.contains y then u y else m y) → News h₀ env.locals h news₁ → Q .next { s with heap := h, toks := tk }) :
    wpAny (model prog w) A (pyIter (.ref r)) (fun it s₂ => LoopAtV prog w A h₀ env x body Q E it s₂) E s := by
  refine iterRn (n := n) (fun i m' n' => (∀ z, z ≠ x → z ≠ y0 → zs.contains z = false → m' z = m z) ∧ ∃ c', m' y0 = some c' ∧ J i c' n') hh hr hbn hz F N ⟨fun _ _ _ _ => rfl, c₀, hy, hj⟩ ?_ ?_
  · rintro i t m₁ news₁ h tk I oI hi ⟨hm, c, hc, hJ⟩ off F₁ N₁
    have e : (fun y => if y = x then some (Value.int (i : Nat) t) else m₁ y) = fun y => if y = x then some (Value.int (i : Nat) t) else if y = y0 then some c else if zs.contains y then m₁ y else m y := by
      funext y
      by_cases h1 : y = x
      · simp only [if_pos h1]
      · simp only [if_neg h1]
        by_cases h2 : y = y0
        · rw [if_pos h2, h2, hc]
        · rw [if_neg h2]
          by_cases h3 : zs.contains y = true
          · rw [if_pos h3]
          · rw [if_neg h3]; exact hm y h1 h2 (by simpa using h3)
    rw [e] at F₁
    exact turn i t c m₁ news₁ h tk I oI hi hJ off F₁ N₁
  · rintro m₁ news₁ h tk ⟨hm, c, hc, hJ⟩ F₁ N₁
    refine done c m₁ news₁ h tk hJ ?_ N₁
    have e : (fun y => if y = x then m₁ y else if y = y0 then some c else if zs.contains y then m₁ y else m y) = m₁ := by
      funext y
      by_cases h1 : y = x
      · simp only [if_pos h1]
      · simp only [if_neg h1]
        by_cases h2 : y = y0
        · rw [if_pos h2, h2, hc]
        · rw [if_neg h2]
          by_cases h3 : zs.contains y = true
          · rw [if_pos h3]
          · rw [if_neg h3]; exact (hm y h1 h2 (by simpa using h3)).symm
    rw [e]; exact F₁
/-- a while; y0's value is told, the names zs are not -/
theorem whileX (y0 : Str) (zs : List Str) {L : Addr} {test : Expr} {pos : Pos} {m : Str → Option Value} {news : List (Addr × Obj)} {c₀ : Value} (J : Nat → Value → List (Addr × Obj) → Prop) {n₀ : Nat}
    (F : Fr h₀ L s.heap m) (N : News h₀ L s.heap news) (hy : m y0 = some c₀) (hj : J n₀ c₀ news)
    (turn : ∀ n c (u : Str → Option Value) news₁ h₁ tk₁, Fr h₀ L h₁ (fun y => if y = y0 then some c else if zs.contains y then u y else m y) → News h₀ L h₁ news₁ → J n c news₁ →
      wpAny (model prog w) A (isTrue test env (eval test env)) (fun b s₂ =>
        if b = true then wpAny (model prog w) A (execs body env) (WhileStep h₀ L s (fun n' m' n2 => (∀ z, z ≠ y0 → zs.contains z = false → m' z = m z) ∧ ∃ c', m' y0 = some c' ∧ J n' c' n2) n) E s₂ else Q .next s₂) E { s with heap := h₁, toks := tk₁ })
    (hE : PassesOwn (model prog w) A env E := by passes_own) :
    wpAny (model prog w) A (exec (.While test body [] pos) env) Q E s := by
  refine While_inv (n₀ := n₀) (fun n' m' n2 => (∀ z, z ≠ y0 → zs.contains z = false → m' z = m z) ∧ ∃ c', m' y0 = some c' ∧ J n' c' n2) F N ⟨fun _ _ _ => rfl, c₀, hy, hj⟩ ?_ hE
  rintro n m₁ news₁ h₁ tk₁ F₁ N₁ ⟨hm, c, hc, hJ⟩
  have e : m₁ = fun y => if y = y0 then some c else if zs.contains y then m₁ y else m y := by
    funext y
    by_cases h2 : y = y0
    · rw [if_pos h2, h2, hc]
    · rw [if_neg h2]
      by_cases h3 : zs.contains y = true
      · rw [if_pos h3]
      · rw [if_neg h3]; exact hm y h2 (by simpa using h3)
  rw [e] at F₁
  exact turn n c m₁ news₁ h₁ tk₁ F₁ N₁ hJ
end
/-- what the walk asks of the addresses: the model's list and the counter differ from all else -/
theorem nd12 {a1 a2 a3 a4 a5 a6 a7 a8 a9 a10 a11 a12 : Addr} {o1 o2 o3 o4 o5 o6 o7 o8 o9 o10 o11 o12 : Obj} {T : List (Addr × Obj)}
    (h : ND ((a1, o1) :: (a2, o2) :: (a3, o3) :: (a4, o4) :: (a5, o5) :: (a6, o6) :: (a7, o7) :: (a8, o8) :: (a9, o9) :: (a10, o10) :: (a11, o11) :: (a12, o12) :: T)) :
    (a1 ≠ a11 ∧ a2 ≠ a11 ∧ a3 ≠ a11 ∧ a4 ≠ a11 ∧ a5 ≠ a11 ∧ a6 ≠ a11 ∧ a7 ≠ a11 ∧ a8 ≠ a11 ∧ a9 ≠ a11 ∧ a10 ≠ a11) ∧
    (a1 ≠ a12 ∧ a2 ≠ a12 ∧ a3 ≠ a12 ∧ a4 ≠ a12 ∧ a5 ≠ a12 ∧ a6 ≠ a12 ∧ a7 ≠ a12 ∧ a8 ≠ a12 ∧ a9 ≠ a12 ∧ a10 ≠ a12 ∧ a11 ≠ a12) ∧ OwnOff T [a1, a2, a3, a4, a5, a6, a7, a8, a9, a10, a11, a12] := by
  have h1 := nd_ne (pre := [(a1, o1), (a2, o2), (a3, o3), (a4, o4), (a5, o5), (a6, o6), (a7, o7), (a8, o8), (a9, o9), (a10, o10)]) (x := a11) (o := o11) h
  have h2 := nd_ne (pre := [(a1, o1), (a2, o2), (a3, o3), (a4, o4), (a5, o5), (a6, o6), (a7, o7), (a8, o8), (a9, o9), (a10, o10), (a11, o11)]) (x := a12) (o := o12) h
  have h3 := nd_own (pre := [(a1, o1), (a2, o2), (a3, o3), (a4, o4), (a5, o5), (a6, o6), (a7, o7), (a8, o8), (a9, o9), (a10, o10), (a11, o11), (a12, o12)]) h
  exact ⟨⟨h1 (a1, o1) (by (repeat (first | exact List.mem_cons_self .. | apply List.mem_cons_of_mem))), h1 (a2, o2) (by (repeat (first | exact List.mem_cons_self .. | apply List.mem_cons_of_mem))), h1 (a3, o3) (by (repeat (first | exact List.mem_cons_self .. | apply List.mem_cons_of_mem))), h1 (a4, o4) (by (repeat (first | exact List.mem_cons_self .. | apply List.mem_cons_of_mem))), h1 (a5, o5) (by (repeat (first | exact List.mem_cons_self .. | apply List.mem_cons_of_mem))), h1 (a6, o6) (by (repeat (first | exact List.mem_cons_self .. | apply List.mem_cons_of_mem))), h1 (a7, o7) (by (repeat (first | exact List.mem_cons_self .. | apply List.mem_cons_of_mem))), h1 (a8, o8) (by (repeat (first | exact List.mem_cons_self .. | apply List.mem_cons_of_mem))), h1 (a9, o9) (by (repeat (first | exact List.mem_cons_self .. | apply List.mem_cons_of_mem))), h1 (a10, o10) (by (repeat (first | exact List.mem_cons_self .. | apply List.mem_cons_of_mem)))⟩,
    ⟨h2 (a1, o1) (by (repeat (first | exact List.mem_cons_self .. | apply List.mem_cons_of_mem))), h2 (a2, o2) (by (repeat (first | exact List.mem_cons_self .. | apply List.mem_cons_of_mem))), h2 (a3, o3) (by (repeat (first | exact List.mem_cons_self .. | apply List.mem_cons_of_mem))), h2 (a4, o4) (by (repeat (first | exact List.mem_cons_self .. | apply List.mem_cons_of_mem))), h2 (a5, o5) (by (repeat (first | exact List.mem_cons_self .. | apply List.mem_cons_of_mem))), h2 (a6, o6) (by (repeat (first | exact List.mem_cons_self .. | apply List.mem_cons_of_mem))), h2 (a7, o7) (by (repeat (first | exact List.mem_cons_self .. | apply List.mem_cons_of_mem))), h2 (a8, o8) (by (repeat (first | exact List.mem_cons_self .. | apply List.mem_cons_of_mem))), h2 (a9, o9) (by (repeat (first | exact List.mem_cons_self .. | apply List.mem_cons_of_mem))), h2 (a10, o10) (by (repeat (first | exact List.mem_cons_self .. | apply List.mem_cons_of_mem))), h2 (a11, o11) (by (repeat (first | exact List.mem_cons_self .. | apply List.mem_cons_of_mem)))⟩, h3⟩
end Mine
end

noncomputable section
set_option maxHeartbeats 1000000
namespace Mine
structure Inv (w : World) (Rg P M Cm Qa : Addr) (σ : LS) (T rest : List (Addr × Obj)) (now : Int) (n : Nat) (b : Int) : Prop where
  good : Good w σ T rest
  rg : σ.Rg = Rg
  p : σ.P = P
  m : σ.M = M
  cm : σ.Cm = Cm
  q : σ.c.Qa = Qa
  sim : Sim σ.S (plp σ.les) (σ.rows.map MR.pl) σ.C now n
  p1 : σ.p1 ≤ b
  now0 : 0 ≤ now
/-- an iterator's own object goes into what is kept -/
theorem Good.enter {w : World} {σ : LS} {T rest : List (Addr × Obj)} {I : Addr} {oI : Obj} (G : Good w σ T rest) (off : ∀ p ∈ σ.led w T, p.1 ≠ I) :
    Good w σ (σ.tail ((I, oI) :: rest)) ((I, oI) :: rest) ∧ ∀ p ∈ σ.led w (σ.tail ((I, oI) :: rest)), p ∈ (I, oI) :: σ.led w T := by
  have hT := G.hT
  subst hT
  have perm : (σ.led w (σ.tail ((I, oI) :: rest))).Perm ((I, oI) :: σ.led w (σ.tail rest)) := by
    show (σ.c.led w ++ (σ.f5 ++ (ledL σ.les ++ (mled σ.rows ++ ([(I, oI)] ++ rest))))).Perm ([(I, oI)] ++ (σ.c.led w ++ (σ.f5 ++ (ledL σ.les ++ (mled σ.rows ++ rest)))))
    exact mv4
  refine ⟨⟨rfl, ?_, G.is, G.od, G.lo, G.cells, G.ns0, G.ns40, G.p0, G.p1⟩, fun p hp => perm.mem_iff.mp hp⟩
  exact NDperm (nd_ins (l := []) (oI := oI) G.nd off) perm.symm
theorem Good.leave {w : World} {σ : LS} {T rest : List (Addr × Obj)} {I : Addr} {oI : Obj} (G : Good w σ T ((I, oI) :: rest)) :
    Good w σ (σ.tail rest) rest ∧ (∀ p ∈ (I, oI) :: σ.led w (σ.tail rest), p ∈ σ.led w T) ∧ ∀ p ∈ σ.led w (σ.tail rest), p.1 ≠ I := by
  have hT := G.hT
  subst hT
  have perm : (σ.led w (σ.tail ((I, oI) :: rest))).Perm ((I, oI) :: σ.led w (σ.tail rest)) := by
    show (σ.c.led w ++ (σ.f5 ++ (ledL σ.les ++ (mled σ.rows ++ ([(I, oI)] ++ rest))))).Perm ([(I, oI)] ++ (σ.c.led w ++ (σ.f5 ++ (ledL σ.les ++ (mled σ.rows ++ rest)))))
    exact mv4
  have nd := NDperm G.nd perm
  have nd' : ND (σ.led w (σ.tail rest)) := (List.nodup_cons.mp nd).2
  refine ⟨⟨rfl, nd', G.is, G.od, G.lo, G.cells, G.ns0, G.ns40, G.p0, G.p1⟩, fun p hp => perm.mem_iff.mpr hp, fun p hp e => ?_⟩
  exact (List.nodup_cons.mp nd).1 (e ▸ List.mem_map.mpr ⟨p, hp, rfl⟩)
def ts7 (k0 k1 k2 k3 k4 k5 k6 : Tok) : Nat → Tok
  | 0 => k0 | 1 => k1 | 2 => k2 | 3 => k3 | 4 => k4 | 5 => k5 | _ => k6
def ts4 (k0 k1 k2 k3 : Tok) : Nat → Tok
  | 0 => k0 | 1 => k1 | 2 => k2 | _ => k3
end Mine
end

noncomputable section
set_option maxHeartbeats 1000000
namespace Mine
/-- a state behind a statement -/
def MEnd (h₀ : Heap) (L : Addr) (J : (Str → Option Value) → List (Addr × Obj) → Prop) (s₁ : Shared) (f : Flow) (s₂ : Shared) : Prop :=
  f = .next ∧ ∃ h' tk m' news', s₂ = { s₁ with heap := h', toks := tk } ∧ Fr h₀ L h' m' ∧ News h₀ L h' news' ∧ J m' news'
theorem MEnd.intro {h₀ : Heap} {L : Addr} {J : (Str → Option Value) → List (Addr × Obj) → Prop} {s₁ : Shared} {h' : Heap} {tk : Nat} {m' : Str → Option Value} {all news' : List (Addr × Obj)}
    (F : Fr h₀ L h' m') (N : News h₀ L h' all) (hs : ∀ p ∈ news', p ∈ all) (hj : J m' news') : MEnd h₀ L J s₁ .next { s₁ with heap := h', toks := tk } := ⟨rfl, h', tk, m', news', rfl, F, newsSub N hs, hj⟩
section
variable {prog : Program} {w : World} {A : Around} {E : Value → Shared → Prop} {s : Shared} {env : Env} {Q : Flow → Shared → Prop}
theorem seqX {h₀ : Heap} {L : Addr} (y0 : Str) (zs : List Str) {m : Str → Option Value} {st : Stmt} {rest : List Stmt} (J : Value → List (Addr × Obj) → Prop) (F0 : Fr h₀ L s.heap m)
    (h1 : wpAny (model prog w) A (exec st env) (MEnd h₀ L (fun m' n' => (∀ z, z ≠ y0 → zs.contains z = false → m' z = m z) ∧ ∃ c', m' y0 = some c' ∧ J c' n') s) E s)
    (h2 : ∀ c (u : Str → Option Value) news₁ h tk, J c news₁ → Fr h₀ L h (fun y => if y = y0 then some c else if zs.contains y then u y else m y) → News h₀ L h news₁ → wpAny (model prog w) A (execs rest env) Q E { s with heap := h, toks := tk }) :
    wpAny (model prog w) A (execs (st :: rest) env) Q E s := by
  refine wpAny_execs_cons (wpAny_mono h1 (fun f s₂ p => ?_) fun _ _ e => e)
  obtain ⟨rfl, h', tk, m₁, news', rfl, F₁, N₁, hm, c, hc, hJ⟩ := p
  have e : m₁ = fun y => if y = y0 then some c else if zs.contains y then m₁ y else m y := by
    funext y
    by_cases h2 : y = y0
    · rw [if_pos h2, h2, hc]
    · rw [if_neg h2]
      by_cases h3 : zs.contains y = true
      · rw [if_pos h3]
      · rw [if_neg h3]; exact hm y h2 (by simpa using h3)
  rw [e] at F₁
  exact h2 c m₁ news' h' tk hJ F₁ N₁
end
end Mine
end

noncomputable section
set_option maxHeartbeats 1000000
namespace Mine
theorem cap_le {S : QS} {n k : Nat} (h : S.cap n) (hk : n ≤ k) : S.cap k := by
  obtain ⟨a, b, c, d⟩ := h
  exact ⟨by omega, by omega, by omega, by omega⟩
theorem Sim.mono {S : QS} {lp : List (Int × List (Nat × Int))} {P : List PR} {C now : Int} {n k : Nat} (h : Sim S lp P C now n) (hk : n ≤ k) : Sim S lp P C now k :=
  ⟨h.hnow, h.head, h.reg0, h.reg1, h.reg2, h.reg3, h.cgs, h.cgC, h.tms, h.rgs, h.keys, h.evs, h.knd, h.sum, by have := h.sz; omega⟩
theorem sim_ok {S : QS} {les : List LE} {rows : List MR} {C nw : Int} {n : Nat} (h : Sim S (plp les) (rows.map MR.pl) C nw n) (hn : n ≤ 41) (h0 : 0 ≤ nw) :
    S.cap 500 ∧ S.cap 1000 ∧ S.small ∧ les.length ≤ 60 ∧ (∀ e ∈ les, e.rows.length ≤ 400) ∧ (∀ e ∈ les, e.rows.length ≤ 400 ∧ ∀ r ∈ e.rows, r.reg < 4) ∧ (∀ e ∈ les, 0 ≤ e.t) ∧ rows.length ≤ 41 ∧ (∀ r ∈ rows, 0 ≤ r.tm ∧ r.tm ≤ 10 ^ 30) ∧ S.head ≤ S.act.length := by
  obtain ⟨h1, h2, h3, h4⟩ := sim_sizes h
  have hlen : ∀ e ∈ les, e.rows.length ≤ 400 := fun e he => by
    have := h3 (e.t, e.abs) (List.mem_map.mpr ⟨e, he, rfl⟩)
    simp only [LE.abs, List.length_map] at this
    omega
  refine ⟨cap_le h1 (by omega), cap_le h1 (by omega), cap_le (k := 1000) h1 (by omega), by simp only [plp, List.length_map] at h2; omega, hlen, fun e he => ⟨hlen e he, fun r hr => ?_⟩, fun e he => ?_, by simp only [List.length_map] at h4; omega, fun r hr => h.tms r.pl (List.mem_map.mpr ⟨r, hr, rfl⟩), h.head⟩
  · obtain ⟨_, q, _⟩ := h.evs (e.t, e.abs) (List.mem_map.mpr ⟨e, he, rfl⟩)
    have hm : (r.reg, r.ev) ∈ e.abs := List.mem_map.mpr ⟨r, hr, rfl⟩
    simp only at q
    rw [q] at hm
    obtain ⟨p, hp, hpe⟩ := List.mem_map.mp hm
    have := h.rgs p (List.mem_filter.mp hp).1
    have e1 : p.rg.toNat = r.reg := congrArg Prod.fst hpe
    omega
  · have := (h.evs (e.t, e.abs) (List.mem_map.mpr ⟨e, he, rfl⟩)).1
    simp only at this
    omega
theorem NextIs.unique {ts : List Int} {x y : Int} (hx : NextIs ts x) (hy : NextIs ts y) : x = y := by
  rcases hx with ⟨a, b⟩ | ⟨a, b⟩ <;> rcases hy with ⟨c, d⟩ | ⟨c, d⟩
  · rw [b, d]
  · rw [a] at c; cases c
  · rw [c] at a; cases a
  · have := b y c; have := d x a; omega
theorem Good.cnt {w : World} {σ : LS} {T rest : List (Addr × Obj)} (G : Good w σ T rest) (C' : Int) (tc' : Tok) (kc' : Nat) : Good w { σ with C := C', tc := tc', kc := kc' } T rest :=
  ⟨G.hT, G.nd.same rfl, G.is, G.od, G.lo, G.cells, G.ns0, G.ns40, G.p0, G.p1⟩
/-- a fresh row on the model, the counter anew -/
theorem push_conv {w : World} {σ : LS} {T rest : List (Addr × Obj)} {h₀ h : Heap} {L a : Addr} {k : Nat} {tm rg cg st C' : Int} {t1 t2 t3 t4 tc' : Tok} {kc' : Nat} (G : Good w σ T rest)
    (N : News h₀ L h ((a, W.listOf #[.int tm t1, .int rg t2, .int cg t3, .int st t4] k) :: (σ.c.led w ++ ((σ.Rg, σ.regs) :: (σ.P, σ.pool) :: (σ.Cl, lo σ.cells σ.ck) :: (σ.M, lo (mrefs σ.rows ++ [.ref a]) (σ.km + 1)) :: (σ.Cm, W.listOf #[.int C' tc'] kc') :: T))))
    (fresh : a ∉ (σ.led w T).map (·.1)) :
    ∃ T', News h₀ L h (({ σ with rows := σ.rows ++ [⟨a, k, tm, rg, cg, st, t1, t2, t3, t4⟩], km := σ.km + 1, C := C', tc := tc', kc := kc' } : LS).led w T') ∧
      Good w { σ with rows := σ.rows ++ [⟨a, k, tm, rg, cg, st, t1, t2, t3, t4⟩], km := σ.km + 1, C := C', tc := tc', kc := kc' } T' rest := by
  have hT := G.hT
  subst hT
  let r : MR := ⟨a, k, tm, rg, cg, st, t1, t2, t3, t4⟩
  let σ' : LS := { σ with rows := σ.rows ++ [r], km := σ.km + 1, C := C', tc := tc', kc := kc' }
  have hml : mled (σ.rows ++ [r]) = mled σ.rows ++ [r.ent] := by simp [mled]
  have hmr : mrefs (σ.rows ++ [r]) = mrefs σ.rows ++ [.ref a] := by simp [r]
  let f5' : List (Addr × Obj) := [(σ.Rg, σ.regs), (σ.P, σ.pool), (σ.Cl, lo σ.cells σ.ck), (σ.M, lo (mrefs σ.rows ++ [.ref a]) (σ.km + 1)), (σ.Cm, W.listOf #[.int C' tc'] kc')]
  have e1 : σ'.led w (σ'.tail rest) = σ.c.led w ++ (f5' ++ (ledL σ.les ++ (mled σ.rows ++ ([r.ent] ++ rest)))) := by
    show σ.c.led w ++ ([(σ.Rg, σ.regs), (σ.P, σ.pool), (σ.Cl, lo σ.cells σ.ck), (σ.M, lo (mrefs (σ.rows ++ [r])) (σ.km + 1)), (σ.Cm, W.listOf #[.int C' tc'] kc')] ++ (ledL σ.les ++ (mled (σ.rows ++ [r]) ++ rest))) = _
    rw [hml, hmr, List.append_assoc]
  have perm : (σ'.led w (σ'.tail rest)).Perm ([r.ent] ++ (σ.c.led w ++ (f5' ++ (ledL σ.les ++ (mled σ.rows ++ rest))))) := by
    rw [e1]; exact mv4
  refine ⟨σ'.tail rest, newsSub N fun p hp => perm.mem_iff.mp hp, rfl, ?_, G.is, G.od, G.lo, G.cells, G.ns0, G.ns40, G.p0, G.p1⟩
  refine NDperm ?_ perm.symm
  show ND (r.ent :: (σ.c.led w ++ (f5' ++ (ledL σ.les ++ (mled σ.rows ++ rest)))))
  have e2 : ((σ.c.led w ++ (f5' ++ (ledL σ.les ++ (mled σ.rows ++ rest)))).map (·.1)) = (σ.led w (σ.tail rest)).map (·.1) := by
    simp [LS.led, LS.tail, f5']
  unfold ND
  rw [List.map_cons, e2]
  exact List.nodup_cons.mpr ⟨fresh, G.nd⟩
/-- a list of the frame's own goes into what is kept -/
theorem menu_in {w : World} {σ : LS} {T rest : List (Addr × Obj)} {h₀ h : Heap} {L a : Addr} {o : Obj} (G : Good w σ T rest) (N : News h₀ L h ((a, o) :: σ.led w T)) (fresh : a ∉ (σ.led w T).map (·.1)) :
    ∃ T', News h₀ L h (σ.led w T') ∧ Good w σ T' ((a, o) :: rest) ∧ (a, o) ∈ T' := by
  obtain ⟨G', hs⟩ := G.enter (I := a) (oI := o) (fun p hp e => fresh (e ▸ List.mem_map.mpr ⟨p, hp, rfl⟩))
  exact ⟨_, newsSub N hs, G', List.mem_append_right _ (List.mem_append_right _ (List.mem_cons_self ..))⟩
theorem cont3 {z a b c : Str} (h : [a, b, c].contains z = false) : z ≠ a ∧ z ≠ b ∧ z ≠ c := by
  refine ⟨?_, ?_, ?_⟩ <;> (rintro rfl; simp at h)
theorem cont4 {z a b c d : Str} (h : [a, b, c, d].contains z = false) : z ≠ a ∧ z ≠ b ∧ z ≠ c ∧ z ≠ d := by
  refine ⟨?_, ?_, ?_, ?_⟩ <;> (rintro rfl; simp at h)
theorem cont3_of {z a b c : Str} (h1 : z ≠ a) (h2 : z ≠ b) (h3 : z ≠ c) : [a, b, c].contains z = false := by
  simp [h1, h2, h3]
theorem fin_id {w : World} {σ : LS} {T rest : List (Addr × Obj)} {h₀ h : Heap} {L : Addr} (G : Good w σ T rest) (N : News h₀ L h (σ.led w T)) : News h₀ L h (σ.led w T) ∧ Good w σ T rest := ⟨N, G⟩
theorem fin_cnt {w : World} {σ : LS} {T rest : List (Addr × Obj)} {h₀ h : Heap} {L : Addr} {C' : Int} {tc' : Tok} {kc' : Nat} (G : Good w σ T rest)
    (N : News h₀ L h (σ.c.led w ++ ((σ.Rg, σ.regs) :: (σ.P, σ.pool) :: (σ.Cl, lo σ.cells σ.ck) :: (σ.M, lo (mrefs σ.rows) σ.km) :: (σ.Cm, W.listOf #[.int C' tc'] kc') :: T))) :
    News h₀ L h (({ σ with C := C', tc := tc', kc := kc' } : LS).led w T) ∧ Good w { σ with C := C', tc := tc', kc := kc' } T rest := ⟨N, G.cnt C' tc' kc'⟩
theorem sim_pend {S : QS} {les : List LE} {rows : List MR} {C nw : Int} {n : Nat} (h : Sim S (plp les) (rows.map MR.pl) C nw n) :
    (S.act.length : Int) - S.head + (S.ina.length + S.nba.length + S.late.length) + ((les.map (·.rows.length)).sum : Nat) = rows.length := by
  have := sim_pending h
  have e : (plp les).map (·.2.length) = les.map (·.rows.length) := by simp [plp, LE.abs, Function.comp_def]
  rw [e, List.length_map] at this
  exact this
/-- the rows' end of each deed -/
theorem row_add {S : QS} {les : List LE} {rows : List MR} {C nw : Int} {n : Nat} (h : Sim S (plp les) (rows.map MR.pl) C nw n) {r : MR} (reg : Nat) (hr : reg < 4) (ev : Int) (e1 : r.tm = 0) (e2 : r.rg = reg) (e3 : r.cg = C) (e4 : r.st = ev) :
    Sim (S.add reg ev) (plp les) ((rows ++ [r]).map MR.pl) (C + 1) nw (n + 1) := by
  have := sim_add h reg hr ev
  rw [List.map_append]
  have e : r.pl = ⟨0, reg, C, ev⟩ := by unfold MR.pl; rw [e1, e2, e3, e4]
  show Sim _ _ (_ ++ [r.pl]) _ _ _
  rw [e]; exact this
theorem row_later {S : QS} {les les' : List LE} {rows : List MR} {C nw : Int} {n : Nat} (h : Sim S (plp les) (rows.map MR.pl) C nw n) {r : MR} (reg : Nat) (hr : reg < 4) (ev d : Int) (hd0 : d ≠ 0) (hd1 : 0 ≤ d) (hd : d ≤ 10 ^ 30) (hi : Ins les (S.now + d) (reg, ev) les')
    (e1 : r.tm = d) (e2 : r.rg = reg) (e3 : r.cg = C) (e4 : r.st = ev) :
    Sim S (plp les') ((rows ++ [r]).map MR.pl) (C + 1) nw (n + 1) := by
  rw [h.hnow] at hi
  have := sim_later h reg hr ev d (by omega) hd (ins_plain hi)
  rw [List.map_append]
  have e : r.pl = ⟨d, reg, C, ev⟩ := by unfold MR.pl; rw [e1, e2, e3, e4]
  show Sim _ _ (_ ++ [r.pl]) _ _ _
  rw [e]; exact this
theorem row_adv {S : QS} {les : List LE} {rows rs : List MR} {C nw due step : Int} {n : Nat} (h : Sim S (plp les) (rows.map MR.pl) C nw n) {pre post : List LE} {e : LE} (hl : les = pre ++ e :: post) (hmin : ∀ e' ∈ les, e.t ≤ e'.t)
    (hdue : NextIs ((rows.filter fun r => decide (0 < r.tm)).map (·.tm)) due) (hst : NextIs ((rows.filter fun r => decide (0 < r.tm)).map (·.tm)) step) (hrs : rs.map MR.pl = (renum step C (rows.map MR.pl)).map (shift step)) :
    e.t = nw + due ∧ 0 < due ∧ Sim { S.addAll e.rows with now := e.t } (plp (pre ++ post)) (rs.map MR.pl) (C + cntS step (rows.map MR.pl)) (nw + due) n := by
  have hu := NextIs.unique hdue hst
  subst hu
  have hl' : plp les = plp pre ++ (e.t, e.abs) :: plp post := by rw [hl]; simp [plp]
  have := sim_advance h hl' (fun x hx => by obtain ⟨y, hy, rfl⟩ := List.mem_map.mp hx; exact hmin y hy) (by rw [← pl_pos]; exact hdue)
  obtain ⟨h1, h2, h3⟩ := this
  have e5 : plp (pre ++ post) = plp pre ++ plp post := by simp [plp]
  refine ⟨h1, h2, ?_⟩
  rw [addAll_plain, e5, hrs, ← h1]
  exact h3
section
variable {prog : Program} {w : World} {A : Around} {E : Value → Shared → Prop} {s : Shared} {h₀ : Heap} {L : Addr}
theorem reg_at {value slice : Expr} {Rg : Addr} {rt : Nat → Tok} {rk d : Nat} {u : Tok} {news : List (Addr × Obj)} {Q : Value → Shared → Prop} (N : News h₀ L s.heap news)
    (hm : (Rg, W.listOf #[.str (rn 0) (rt 0), .str (rn 1) (rt 1), .str (rn 2) (rt 2), .str (rn 3) (rt 3)] rk) ∈ news) (hd : d < 4) (h : ∀ t, Q (.str (rn d) t) s)
    (hs : subscripted slice false (.ref Rg) (.int (d : Int) u) = operate [.ref Rg, .int (d : Int) u] (getItem (.ref Rg) (.int (d : Int) u)) := by with_unfolding_all rfl) (hg : ∀ r, letTemporaryGo value (.ref Rg) r = pure () := by intro _; with_unfolding_all rfl) :
    wpAny (model prog w) A (subscriptTail value slice (.ref Rg) (.int (d : Int) u)) Q E s := by
  refine item_list (x := .str (rn d) (rt d)) (News.isList N hm) (by omega) (by omega) ?_ (h _) hs hg
  rw [Int.toNat_natCast]
  obtain rfl | rfl | rfl | rfl : d = 0 ∨ d = 1 ∨ d = 2 ∨ d = 3 := by omega
  all_goals rfl
theorem menu_at {value slice : Expr} {l : Addr} {a0 a1 a2 a3 a4 : Int} {t0 t1 t2 t3 t4 : Tok} {k d : Nat} {u : Tok} {news : List (Addr × Obj)} {Q : Value → Shared → Prop} (N : News h₀ L s.heap news)
    (hm : (l, W.listOf #[.int a0 t0, .int a1 t1, .int a2 t2, .int a3 t3, .int a4 t4] k) ∈ news) (hd : d < 5) (b0 : 0 ≤ a0 ∧ a0 ≤ 10 ^ 30) (b1 : 0 ≤ a1 ∧ a1 ≤ 10 ^ 30) (b2 : 0 ≤ a2 ∧ a2 ≤ 10 ^ 30) (b3 : 0 ≤ a3 ∧ a3 ≤ 10 ^ 30) (b4 : 0 ≤ a4 ∧ a4 ≤ 10 ^ 30)
    (h : ∀ dl t, 0 ≤ dl → dl ≤ 10 ^ 30 → Q (.int dl t) s)
    (hs : subscripted slice false (.ref l) (.int (d : Int) u) = operate [.ref l, .int (d : Int) u] (getItem (.ref l) (.int (d : Int) u)) := by with_unfolding_all rfl) :
    wpAny (model prog w) A (subscriptTail value slice (.ref l) (.int (d : Int) u)) Q E s := by
  refine kba_turn (value' := PySem.Expr.Name (PySem.Str.ofString "_") ⟨0, 0, 0, 0⟩) (fun _ => rfl) ?_
  have key : ∀ x t, (#[Value.int a0 t0, .int a1 t1, .int a2 t2, .int a3 t3, .int a4 t4] : Array Value)[d]? = some (.int x t) → 0 ≤ x → x ≤ 10 ^ 30 → wpAny (model prog w) A (subscriptTail (PySem.Expr.Name (PySem.Str.ofString "_") ⟨0, 0, 0, 0⟩) slice (.ref l) (.int (d : Int) u)) Q E s :=
    fun x t hx h0 h1 => item_list (News.isList N hm) (by omega) (by omega) (by rw [Int.toNat_natCast]; exact hx) (h x t h0 h1) hs (fun _ => rfl)
  obtain rfl | rfl | rfl | rfl | rfl : d = 0 ∨ d = 1 ∨ d = 2 ∨ d = 3 ∨ d = 4 := by omega
  · exact key a0 t0 rfl b0.1 b0.2
  · exact key a1 t1 rfl b1.1 b1.2
  · exact key a2 t2 rfl b2.1 b2.2
  · exact key a3 t3 rfl b3.1 b3.2
  · exact key a4 t4 rfl b4.1 b4.2
end
end Mine
end

noncomputable section
set_option maxHeartbeats 1000000
namespace Mine
theorem cont1 {z a : Str} (h : [a].contains z = false) : z ≠ a := by rintro rfl; simp at h
theorem sim_les_ne {S : QS} {les : List LE} {rows : List MR} {C nw : Int} {n : Nat} (h : Sim S (plp les) (rows.map MR.pl) C nw n) (hf : fr rows = []) (h0 : rows.length ≠ 0) :
    plp les ≠ [] ∧ (rows.filter fun r => decide (0 < r.tm)).map (·.tm) ≠ [] := by
  obtain ⟨r, hr⟩ := List.exists_mem_of_ne_nil rows (fun q => h0 (by rw [q]; rfl))
  have hm : r.pl ∈ rows.map MR.pl := List.mem_map.mpr ⟨r, hr, rfl⟩
  have ht : 0 ≤ r.tm := (h.tms _ hm).1
  have hne : r.tm ≠ 0 := fun q => by
    have : r ∈ fr rows := List.mem_filter.mpr ⟨hr, decide_eq_true q⟩
    rw [hf] at this; cases this
  have hp : 0 < r.tm := by omega
  refine ⟨fun q => ?_, fun q => ?_⟩
  · have := h.keys _ hm hp
    rw [q] at this; cases this
  · have : r.tm ∈ (rows.filter fun r => decide (0 < r.tm)).map (·.tm) := List.mem_map.mpr ⟨r, List.mem_filter.mpr ⟨hr, decide_eq_true hp⟩, rfl⟩
    rw [q] at this; cases this
theorem sim_les_nil {S : QS} {les : List LE} {C nw : Int} {n : Nat} (h : Sim S (plp les) (([] : List MR).map MR.pl) C nw n) : plp les = [] := by
  by_cases hl : plp les = []
  · exact hl
  · obtain ⟨e, he⟩ := List.exists_mem_of_ne_nil _ hl
    obtain ⟨_, h2, h3⟩ := h.evs e he
    rw [h2] at h3; simp at h3
theorem adv_fr {rows rs : List MR} {step C : Int} (hst : NextIs ((rows.filter fun r => decide (0 < r.tm)).map (·.tm)) step) (hs : 0 < step) (hrs : rs.map MR.pl = (renum step C (rows.map MR.pl)).map (shift step)) : (fr rs).length ≠ 0 ∧ rs.length = rows.length := by
  constructor
  · intro h0
    have h1 : step ∈ (rows.map MR.pl).map (·.tm) := by
      rcases hst with ⟨_, q⟩ | ⟨q, _⟩
      · omega
      · obtain ⟨r, hr, he⟩ := List.mem_map.mp q
        rw [List.map_map]
        exact List.mem_map.mpr ⟨r, (List.mem_filter.mp hr).1, he⟩
    rw [← renum_tm step (rows.map MR.pl) C] at h1
    obtain ⟨x, hx, hxe⟩ := List.mem_map.mp h1
    have h2 : shift step x ∈ rs.map MR.pl := by rw [hrs]; exact List.mem_map.mpr ⟨x, hx, rfl⟩
    obtain ⟨r, hr, hre⟩ := List.mem_map.mp h2
    have h3 : r.tm = 0 := by
      have : r.pl.tm = (shift step x).tm := by rw [hre]
      have e : (shift step x).tm = 0 := by
        unfold shift; rw [if_pos (by omega)]
        show x.tm - step = 0
        omega
      rw [e] at this; exact this
    have : r ∈ fr rs := List.mem_filter.mpr ⟨hr, decide_eq_true h3⟩
    rw [List.length_eq_zero_iff.mp h0] at this; cases this
  · have := congrArg List.length hrs
    simpa [renum_len] using this
theorem taken_len {rows rs pre post : List MR} {r : MR} {least : Int} (h : Taken rows least rs pre r post) : (pre ++ post).length + 1 = rows.length := by
  have h1 := congrArg List.length h.addr
  rw [List.length_map, List.length_map, h.split] at h1
  simp at h1 ⊢; omega
end Mine
end

noncomputable section
set_option maxHeartbeats 1000000
namespace Mine
/-- the same but for heap and counter -/
structure Rel (s₁ s : Shared) : Prop where
  g : s.gens = s₁.gens
  d : s.drawn = s₁.drawn
  o : s.os = s₁.os
theorem Rel.refl (s : Shared) : Rel s s := ⟨rfl, rfl, rfl⟩
theorem Rel.upd {s₁ s : Shared} (r : Rel s₁ s) (h : Heap) (tk : Nat) : Rel s₁ { s with heap := h, toks := tk } := ⟨r.g, r.d, r.o⟩
theorem Rel.eq {s₁ s : Shared} (r : Rel s₁ s) : s = { s₁ with heap := s.heap, toks := s.toks } := by
  cases s; cases s₁; obtain ⟨rfl, rfl, rfl⟩ := r; rfl
noncomputable def Up : Addr → List Addr → Prop
  | _, [] => True
  | a, b :: l => @LT.lt Nat _ a b ∧ Up b l
theorem Up.lt : ∀ {a : Addr} {l : List Addr}, Up a l → ∀ x ∈ l, @LT.lt Nat _ a x
  | _, [], _, x, hx => by cases hx
  | a, b :: l, h, x, hx => by
    rcases List.mem_cons.mp hx with rfl | hm
    · exact h.1
    · exact Nat.lt_trans h.1 (Up.lt h.2 x hm)
theorem Up.nodup : ∀ {a : Addr} {l : List Addr}, Up a l → (a :: l).Nodup
  | _, [], _ => List.nodup_cons.mpr ⟨by simp, List.nodup_nil⟩
  | a, b :: l, h => List.nodup_cons.mpr ⟨fun hm => Nat.lt_irrefl _ (Up.lt h a hm), Up.nodup h.2⟩
theorem mem12 {α : Type} {e1 e2 e3 e4 e5 e6 e7 e8 e9 e10 e11 e12 : α} {more : List α} : ∀ p ∈ [e8, e9, e7, e6, e5, e4, e3, e10, e11, e12, e2, e1], p ∈ e1 :: e2 :: e3 :: e4 :: e5 :: e6 :: e7 :: e8 :: e9 :: e10 :: e11 :: e12 :: more := by
  intro p hp
  simp only [List.mem_cons, List.not_mem_nil, or_false] at hp
  rcases hp with rfl | rfl | rfl | rfl | rfl | rfl | rfl | rfl | rfl | rfl | rfl | rfl <;> (repeat (first | exact List.mem_cons_self .. | apply List.mem_cons_of_mem))
def TakenIs (S : QS) (v : Value) : Prop := match S.taken with | some e => ∃ t, v = .int e t | none => v = .none
section
variable {w : World} {dp un : Nat} {gd : Option (List Code)} {cn : Str} {cs : Scope} {a : Addr} {ccd : Value} {cl : List (Str × Addr)} {outer : List Env} {A₀ : Around} {base h₀ : Heap} {L : Addr} {m : Str → Option Value} {s s₁ : Shared} {mean : ExcName → Option Value} {mg mb : Str → Option Value} {Q E : Value → Shared → Prop}
variable {Rg : Addr} {rt : Nat → Tok} {rk : Nat} {P : Addr} {Cl : Addr} {p0 : Int} {p1 : Int} {t0 : Tok} {t1 : Tok} {pn : Nat} {cells : List Value} {ck : Nat} {ns : List Int} {M : Addr} {km : Nat} {rows : List MR} {Cm : Addr} {kc : Nat} {C : Int} {tc : Tok} {Qa : Addr} {D : Addr} {act : Addr} {ina : Addr} {nba : Addr} {late : Addr} {later : Addr} {ts : Nat → Nat} {now : Int} {tnow : Tok} {head : Int} {th : Tok} {va : List Value} {ka : Nat} {vi : List Value} {ki : Nat} {vn : List Value} {kn : Nat} {vl : List Value} {kl : Nat} {od : Obj} {les : List LE} {S : QS} {T rest : List (Addr × Obj)} {goal : Prop}
theorem u_draw (G : Good w (⟨Rg, rt, rk, P, Cl, p0, p1, t0, t1, pn, cells, ck, ns, M, km, rows, Cm, kc, C, tc, ⟨Qa, D, act, ina, nba, late, later, ts, now, tnow, head, th, va, ka, vi, ki, vn, kn, vl, kl, od⟩, les, S⟩ : LS) T rest) (most : Int) (tm : Tok) (hm : 0 < most) (hm' : most ≤ 40) (hp1 : p1 < 1000) (rl : Rel s₁ s) (B : Below A₀ base outer h₀) (F : Fr h₀ L s.heap m) (X : (hd.heap_39 w.params).In h₀) (N : News h₀ L s.heap ((⟨Rg, rt, rk, P, Cl, p0, p1, t0, t1, pn, cells, ck, ns, M, km, rows, Cm, kc, C, tc, ⟨Qa, D, act, ina, nba, late, later, ts, now, tnow, head, th, va, ka, vi, ki, vn, kn, vl, kl, od⟩, les, S⟩ : LS).led w T)) (Tp : Top hd.view_39 (looseW hd.view_39 []) mean mg mb h₀) (hk : cs.kind = .function) (hdp : dp + 10 * 1 < recursionLimit) (hu : un + 1000 * 1 < cLine)
    (k : (∀ (d : Nat) (td : Tok) (q0 q1 : Int) (u0 u1 : Tok) (n' : Nat) (s' : Shared), Rel s₁ s' → Fr h₀ L s'.heap m → News h₀ L s'.heap ((⟨Rg, rt, rk, P, Cl, q0, q1, u0, u1, n', cells, ck, ns, M, km, rows, Cm, kc, C, tc, ⟨Qa, D, act, ina, nba, late, later, ts, now, tnow, head, th, va, ka, vi, ki, vn, kn, vl, kl, od⟩, les, S⟩ : LS).led w T) → (d : Int) < most → q1 ≤ p1 + 1 → Good w (⟨Rg, rt, rk, P, Cl, q0, q1, u0, u1, n', cells, ck, ns, M, km, rows, Cm, kc, C, tc, ⟨Qa, D, act, ina, nba, late, later, ts, now, tnow, head, th, va, ka, vi, ki, vn, kn, vl, kl, od⟩, les, S⟩ : LS) T rest → Q (.int (d : Int) td) s')) :
    wpAny (model prg w) (ktrTop dp un gd cn cs L a ccd cl outer) (call (.ref 91) [.ref P, .int most tm]) Q E s := by
  refine Ctr.use (c_draw G most tm hm hm' hp1) B F X N Tp hk hdp hu ?_
  rintro r n h' tk' F' N' ⟨d, td, q0, q1, u0, u1, n', rfl, h1, h2, rfl, G'⟩
  exact k d td q0 q1 u0 u1 n' _ (rl.upd h' tk') F' N' h1 h2 G'
theorem u_add (G : Good w (⟨Rg, rt, rk, P, Cl, p0, p1, t0, t1, pn, cells, ck, ns, M, km, rows, Cm, kc, C, tc, ⟨Qa, D, act, ina, nba, late, later, ts, now, tnow, head, th, va, ka, vi, ki, vn, kn, vl, kl, od⟩, les, S⟩ : LS) T rest) (r : Nat) (hr : r < 4) (ev : Int) (te t : Tok) (hz : S.cap 1000) (rl : Rel s₁ s) (B : Below A₀ base outer h₀) (F : Fr h₀ L s.heap m) (X : (hd.heap_39 w.params).In h₀) (N : News h₀ L s.heap ((⟨Rg, rt, rk, P, Cl, p0, p1, t0, t1, pn, cells, ck, ns, M, km, rows, Cm, kc, C, tc, ⟨Qa, D, act, ina, nba, late, later, ts, now, tnow, head, th, va, ka, vi, ki, vn, kn, vl, kl, od⟩, les, S⟩ : LS).led w T)) (Tp : Top hd.view_39 (looseW hd.view_39 []) mean mg mb h₀) (hk : cs.kind = .function) (hdp : dp + 10 * 1 < recursionLimit) (hu : un + 1000 * 1 < cLine)
    (k : (∀ (D9 : Addr) (act9 : Addr) (ina9 : Addr) (nba9 : Addr) (late9 : Addr) (later9 : Addr) (ts9 : Nat → Nat) (now9 : Int) (tnow9 : Tok) (head9 : Int) (th9 : Tok) (va9 : List Value) (ka9 : Nat) (vi9 : List Value) (ki9 : Nat) (vn9 : List Value) (kn9 : Nat) (vl9 : List Value) (kl9 : Nat) (od9 : Obj) (s' : Shared), Rel s₁ s' → Fr h₀ L s'.heap m → News h₀ L s'.heap ((⟨Rg, rt, rk, P, Cl, p0, p1, t0, t1, pn, cells, ck, ns, M, km, rows, Cm, kc, C, tc, ⟨Qa, D9, act9, ina9, nba9, late9, later9, ts9, now9, tnow9, head9, th9, va9, ka9, vi9, ki9, vn9, kn9, vl9, kl9, od9⟩, les, (S.add r ev)⟩ : LS).led w T) → Good w (⟨Rg, rt, rk, P, Cl, p0, p1, t0, t1, pn, cells, ck, ns, M, km, rows, Cm, kc, C, tc, ⟨Qa, D9, act9, ina9, nba9, late9, later9, ts9, now9, tnow9, head9, th9, va9, ka9, vi9, ki9, vn9, kn9, vl9, kl9, od9⟩, les, (S.add r ev)⟩ : LS) T rest → Q .none s')) :
    wpAny (model prg w) (ktrTop dp un gd cn cs L a ccd cl outer) (call (.ref 35) [.ref Qa, .str (rn r) t, .int ev te]) Q E s := by
  refine Ctr.use (c_add G r hr ev te t hz) B F X N Tp hk hdp hu ?_
  rintro r n h' tk' F' N' ⟨rfl, ⟨Qa9, D9, act9, ina9, nba9, late9, later9, ts9, now9, tnow9, head9, th9, va9, ka9, vi9, ki9, vn9, kn9, vl9, kl9, od9⟩, e, rfl, G'⟩
  dsimp only at e
  subst e
  exact k D9 act9 ina9 nba9 late9 later9 ts9 now9 tnow9 head9 th9 va9 ka9 vi9 ki9 vn9 kn9 vl9 kl9 od9 _ (rl.upd h' tk') F' N' G'
theorem u_add_after (G : Good w (⟨Rg, rt, rk, P, Cl, p0, p1, t0, t1, pn, cells, ck, ns, M, km, rows, Cm, kc, C, tc, ⟨Qa, D, act, ina, nba, late, later, ts, now, tnow, head, th, va, ka, vi, ki, vn, kn, vl, kl, od⟩, les, S⟩ : LS) T rest) (d : Int) (r : Nat) (hr : r < 4) (ev : Int) (td te t : Tok) (hz : S.cap 1000) (hn : les.length ≤ 60) (hreg : ∀ e ∈ les, e.rows.length ≤ 400) (rl : Rel s₁ s) (B : Below A₀ base outer h₀) (F : Fr h₀ L s.heap m) (X : (hd.heap_39 w.params).In h₀) (N : News h₀ L s.heap ((⟨Rg, rt, rk, P, Cl, p0, p1, t0, t1, pn, cells, ck, ns, M, km, rows, Cm, kc, C, tc, ⟨Qa, D, act, ina, nba, late, later, ts, now, tnow, head, th, va, ka, vi, ki, vn, kn, vl, kl, od⟩, les, S⟩ : LS).led w T)) (Tp : Top hd.view_39 (looseW hd.view_39 []) mean mg mb h₀) (hk : cs.kind = .function) (hdp : dp + 10 * 2 < recursionLimit) (hu : un + 1000 * 2 < cLine)
    (k : (∀ (D9 : Addr) (act9 : Addr) (ina9 : Addr) (nba9 : Addr) (late9 : Addr) (later9 : Addr) (ts9 : Nat → Nat) (now9 : Int) (tnow9 : Tok) (head9 : Int) (th9 : Tok) (va9 : List Value) (ka9 : Nat) (vi9 : List Value) (ki9 : Nat) (vn9 : List Value) (kn9 : Nat) (vl9 : List Value) (kl9 : Nat) (od9 : Obj) (les' : List LE) (S' : QS) (T' : List (Addr × Obj)) (s' : Shared), Rel s₁ s' → Fr h₀ L s'.heap m → News h₀ L s'.heap ((⟨Rg, rt, rk, P, Cl, p0, p1, t0, t1, pn, cells, ck, ns, M, km, rows, Cm, kc, C, tc, ⟨Qa, D9, act9, ina9, nba9, late9, later9, ts9, now9, tnow9, head9, th9, va9, ka9, vi9, ki9, vn9, kn9, vl9, kl9, od9⟩, les', S'⟩ : LS).led w T') → ((d = 0 ∧ les' = les ∧ S' = S.add (max r 1) ev) ∨ (d ≠ 0 ∧ S' = S ∧ Ins les (S.now + d) (r, ev) les')) → Good w (⟨Rg, rt, rk, P, Cl, p0, p1, t0, t1, pn, cells, ck, ns, M, km, rows, Cm, kc, C, tc, ⟨Qa, D9, act9, ina9, nba9, late9, later9, ts9, now9, tnow9, head9, th9, va9, ka9, vi9, ki9, vn9, kn9, vl9, kl9, od9⟩, les', S'⟩ : LS) T' rest → Q .none s')) :
    wpAny (model prg w) (ktrTop dp un gd cn cs L a ccd cl outer) (call (.ref 42) [.ref Qa, .int d td, .int ev te, .str (rn r) t]) Q E s := by
  refine Ctr.use (c_add_after G d r hr ev td te t hz hn hreg) B F X N Tp hk hdp hu ?_
  rintro r n h' tk' F' N' ⟨rfl, ⟨Qa9, D9, act9, ina9, nba9, late9, later9, ts9, now9, tnow9, head9, th9, va9, ka9, vi9, ki9, vn9, kn9, vl9, kl9, od9⟩, les', S', T', e, hi, rfl, G'⟩
  dsimp only at e
  subst e
  exact k D9 act9 ina9 nba9 late9 later9 ts9 now9 tnow9 head9 th9 va9 ka9 vi9 ki9 vn9 kn9 vl9 kl9 od9 les' S' T' _ (rl.upd h' tk') F' N' hi G'
theorem u_take (G : Good w (⟨Rg, rt, rk, P, Cl, p0, p1, t0, t1, pn, cells, ck, ns, M, km, rows, Cm, kc, C, tc, ⟨Qa, D, act, ina, nba, late, later, ts, now, tnow, head, th, va, ka, vi, ki, vn, kn, vl, kl, od⟩, les, S⟩ : LS) T rest) (hz : S.small) (hh : S.head ≤ S.act.length) (rl : Rel s₁ s) (B : Below A₀ base outer h₀) (F : Fr h₀ L s.heap m) (X : (hd.heap_39 w.params).In h₀) (N : News h₀ L s.heap ((⟨Rg, rt, rk, P, Cl, p0, p1, t0, t1, pn, cells, ck, ns, M, km, rows, Cm, kc, C, tc, ⟨Qa, D, act, ina, nba, late, later, ts, now, tnow, head, th, va, ka, vi, ki, vn, kn, vl, kl, od⟩, les, S⟩ : LS).led w T)) (Tp : Top hd.view_39 (looseW hd.view_39 []) mean mg mb h₀) (hk : cs.kind = .function) (hdp : dp + 10 * 2 < recursionLimit) (hu : un + 1000 * 2 < cLine)
    (k : (∀ (v : Value) (D9 : Addr) (act9 : Addr) (ina9 : Addr) (nba9 : Addr) (late9 : Addr) (later9 : Addr) (ts9 : Nat → Nat) (now9 : Int) (tnow9 : Tok) (head9 : Int) (th9 : Tok) (va9 : List Value) (ka9 : Nat) (vi9 : List Value) (ki9 : Nat) (vn9 : List Value) (kn9 : Nat) (vl9 : List Value) (kl9 : Nat) (od9 : Obj) (s' : Shared), Rel s₁ s' → Fr h₀ L s'.heap m → News h₀ L s'.heap ((⟨Rg, rt, rk, P, Cl, p0, p1, t0, t1, pn, cells, ck, ns, M, km, rows, Cm, kc, C, tc, ⟨Qa, D9, act9, ina9, nba9, late9, later9, ts9, now9, tnow9, head9, th9, va9, ka9, vi9, ki9, vn9, kn9, vl9, kl9, od9⟩, les, S.take⟩ : LS).led w T) → TakenIs S v → Good w (⟨Rg, rt, rk, P, Cl, p0, p1, t0, t1, pn, cells, ck, ns, M, km, rows, Cm, kc, C, tc, ⟨Qa, D9, act9, ina9, nba9, late9, later9, ts9, now9, tnow9, head9, th9, va9, ka9, vi9, ki9, vn9, kn9, vl9, kl9, od9⟩, les, S.take⟩ : LS) T rest → Q v s')) :
    wpAny (model prg w) (ktrTop dp un gd cn cs L a ccd cl outer) (call (.ref 56) [.ref Qa]) Q E s := by
  refine Ctr.use (c_take G hz hh) B F X N Tp hk hdp hu ?_
  rintro r n h' tk' F' N' ⟨hv, ⟨Qa9, D9, act9, ina9, nba9, late9, later9, ts9, now9, tnow9, head9, th9, va9, ka9, vi9, ki9, vn9, kn9, vl9, kl9, od9⟩, e, rfl, G'⟩
  dsimp only at e
  subst e
  exact k r D9 act9 ina9 nba9 late9 later9 ts9 now9 tnow9 head9 th9 va9 ka9 vi9 ki9 vn9 kn9 vl9 kl9 od9 _ (rl.upd h' tk') F' N' hv G'
theorem u_take_none (ht : S.taken = none) (G : Good w (⟨Rg, rt, rk, P, Cl, p0, p1, t0, t1, pn, cells, ck, ns, M, km, rows, Cm, kc, C, tc, ⟨Qa, D, act, ina, nba, late, later, ts, now, tnow, head, th, va, ka, vi, ki, vn, kn, vl, kl, od⟩, les, S⟩ : LS) T rest) (hz : S.small) (hh : S.head ≤ S.act.length) (rl : Rel s₁ s) (B : Below A₀ base outer h₀) (F : Fr h₀ L s.heap m) (X : (hd.heap_39 w.params).In h₀) (N : News h₀ L s.heap ((⟨Rg, rt, rk, P, Cl, p0, p1, t0, t1, pn, cells, ck, ns, M, km, rows, Cm, kc, C, tc, ⟨Qa, D, act, ina, nba, late, later, ts, now, tnow, head, th, va, ka, vi, ki, vn, kn, vl, kl, od⟩, les, S⟩ : LS).led w T)) (Tp : Top hd.view_39 (looseW hd.view_39 []) mean mg mb h₀) (hk : cs.kind = .function) (hdp : dp + 10 * 2 < recursionLimit) (hu : un + 1000 * 2 < cLine)
    (k : (∀ (D9 : Addr) (act9 : Addr) (ina9 : Addr) (nba9 : Addr) (late9 : Addr) (later9 : Addr) (ts9 : Nat → Nat) (now9 : Int) (tnow9 : Tok) (head9 : Int) (th9 : Tok) (va9 : List Value) (ka9 : Nat) (vi9 : List Value) (ki9 : Nat) (vn9 : List Value) (kn9 : Nat) (vl9 : List Value) (kl9 : Nat) (od9 : Obj) (s' : Shared), Rel s₁ s' → Fr h₀ L s'.heap m → News h₀ L s'.heap ((⟨Rg, rt, rk, P, Cl, p0, p1, t0, t1, pn, cells, ck, ns, M, km, rows, Cm, kc, C, tc, ⟨Qa, D9, act9, ina9, nba9, late9, later9, ts9, now9, tnow9, head9, th9, va9, ka9, vi9, ki9, vn9, kn9, vl9, kl9, od9⟩, les, S.take⟩ : LS).led w T) → Good w (⟨Rg, rt, rk, P, Cl, p0, p1, t0, t1, pn, cells, ck, ns, M, km, rows, Cm, kc, C, tc, ⟨Qa, D9, act9, ina9, nba9, late9, later9, ts9, now9, tnow9, head9, th9, va9, ka9, vi9, ki9, vn9, kn9, vl9, kl9, od9⟩, les, S.take⟩ : LS) T rest → Q .none s')) :
    wpAny (model prg w) (ktrTop dp un gd cn cs L a ccd cl outer) (call (.ref 56) [.ref Qa]) Q E s := by
  refine u_take G hz hh rl B F X N Tp hk hdp hu ?_
  intro v D9 act9 ina9 nba9 late9 later9 ts9 now9 tnow9 head9 th9 va9 ka9 vi9 ki9 vn9 kn9 vl9 kl9 od9 s' r' F' N' hv G'
  unfold TakenIs at hv
  rw [ht] at hv
  dsimp only at hv
  subst hv
  exact k D9 act9 ina9 nba9 late9 later9 ts9 now9 tnow9 head9 th9 va9 ka9 vi9 ki9 vn9 kn9 vl9 kl9 od9 s' r' F' N' G'
theorem u_take_some {e : Int} (ht : S.taken = some e) (G : Good w (⟨Rg, rt, rk, P, Cl, p0, p1, t0, t1, pn, cells, ck, ns, M, km, rows, Cm, kc, C, tc, ⟨Qa, D, act, ina, nba, late, later, ts, now, tnow, head, th, va, ka, vi, ki, vn, kn, vl, kl, od⟩, les, S⟩ : LS) T rest) (hz : S.small) (hh : S.head ≤ S.act.length) (rl : Rel s₁ s) (B : Below A₀ base outer h₀) (F : Fr h₀ L s.heap m) (X : (hd.heap_39 w.params).In h₀) (N : News h₀ L s.heap ((⟨Rg, rt, rk, P, Cl, p0, p1, t0, t1, pn, cells, ck, ns, M, km, rows, Cm, kc, C, tc, ⟨Qa, D, act, ina, nba, late, later, ts, now, tnow, head, th, va, ka, vi, ki, vn, kn, vl, kl, od⟩, les, S⟩ : LS).led w T)) (Tp : Top hd.view_39 (looseW hd.view_39 []) mean mg mb h₀) (hk : cs.kind = .function) (hdp : dp + 10 * 2 < recursionLimit) (hu : un + 1000 * 2 < cLine)
    (k : (∀ (tv : Tok) (D9 : Addr) (act9 : Addr) (ina9 : Addr) (nba9 : Addr) (late9 : Addr) (later9 : Addr) (ts9 : Nat → Nat) (now9 : Int) (tnow9 : Tok) (head9 : Int) (th9 : Tok) (va9 : List Value) (ka9 : Nat) (vi9 : List Value) (ki9 : Nat) (vn9 : List Value) (kn9 : Nat) (vl9 : List Value) (kl9 : Nat) (od9 : Obj) (s' : Shared), Rel s₁ s' → Fr h₀ L s'.heap m → News h₀ L s'.heap ((⟨Rg, rt, rk, P, Cl, p0, p1, t0, t1, pn, cells, ck, ns, M, km, rows, Cm, kc, C, tc, ⟨Qa, D9, act9, ina9, nba9, late9, later9, ts9, now9, tnow9, head9, th9, va9, ka9, vi9, ki9, vn9, kn9, vl9, kl9, od9⟩, les, S.take⟩ : LS).led w T) → Good w (⟨Rg, rt, rk, P, Cl, p0, p1, t0, t1, pn, cells, ck, ns, M, km, rows, Cm, kc, C, tc, ⟨Qa, D9, act9, ina9, nba9, late9, later9, ts9, now9, tnow9, head9, th9, va9, ka9, vi9, ki9, vn9, kn9, vl9, kl9, od9⟩, les, S.take⟩ : LS) T rest → Q (.int e tv) s')) :
    wpAny (model prg w) (ktrTop dp un gd cn cs L a ccd cl outer) (call (.ref 56) [.ref Qa]) Q E s := by
  refine u_take G hz hh rl B F X N Tp hk hdp hu ?_
  intro v D9 act9 ina9 nba9 late9 later9 ts9 now9 tnow9 head9 th9 va9 ka9 vi9 ki9 vn9 kn9 vl9 kl9 od9 s' r' F' N' hv G'
  unfold TakenIs at hv
  rw [ht] at hv
  obtain ⟨tv, rfl⟩ := hv
  exact k tv D9 act9 ina9 nba9 late9 later9 ts9 now9 tnow9 head9 th9 va9 ka9 vi9 ki9 vn9 kn9 vl9 kl9 od9 s' r' F' N' G'
theorem TakenIs.no {v : Value} (h : TakenIs S v) (ht : S.taken = none) : v = .none := by
  unfold TakenIs at h
  rw [ht] at h
  exact h
theorem TakenIs.one {v : Value} {e : Int} (h : TakenIs S v) (ht : S.taken = some e) (k : ∀ t, v = .int e t → goal) : goal := by
  unfold TakenIs at h
  rw [ht] at h
  obtain ⟨t, h⟩ := h
  exact k t h
theorem u_law_taken (G : Good w (⟨Rg, rt, rk, P, Cl, p0, p1, t0, t1, pn, cells, ck, ns, M, km, rows, Cm, kc, C, tc, ⟨Qa, D, act, ina, nba, late, later, ts, now, tnow, head, th, va, ka, vi, ki, vn, kn, vl, kl, od⟩, les, S⟩ : LS) T rest) (hz : rows.length ≤ 1000) (hb : ∀ r ∈ rows, 0 ≤ r.tm ∧ r.tm ≤ 10 ^ 30) (rl : Rel s₁ s) (B : Below A₀ base outer h₀) (F : Fr h₀ L s.heap m) (X : (hd.heap_39 w.params).In h₀) (N : News h₀ L s.heap ((⟨Rg, rt, rk, P, Cl, p0, p1, t0, t1, pn, cells, ck, ns, M, km, rows, Cm, kc, C, tc, ⟨Qa, D, act, ina, nba, late, later, ts, now, tnow, head, th, va, ka, vi, ki, vn, kn, vl, kl, od⟩, les, S⟩ : LS).led w T)) (Tp : Top hd.view_39 (looseW hd.view_39 []) mean mg mb h₀) (hk : cs.kind = .function) (hdp : dp + 10 * 1 < recursionLimit) (hu : un + 1000 * 1 < cLine)
    (k1 : (∀  (s' : Shared), Rel s₁ s' → Fr h₀ L s'.heap m → News h₀ L s'.heap ((⟨Rg, rt, rk, P, Cl, p0, p1, t0, t1, pn, cells, ck, ns, M, km, rows, Cm, kc, C, tc, ⟨Qa, D, act, ina, nba, late, later, ts, now, tnow, head, th, va, ka, vi, ki, vn, kn, vl, kl, od⟩, les, S⟩ : LS).led w T) → fr rows = [] → Q .none s'))
    (k2 : (∀ (least : Int) (rs pre : List MR) (r : MR) (post : List MR) (t : Tok) (T' : List (Addr × Obj)) (s' : Shared), Rel s₁ s' → Fr h₀ L s'.heap m → News h₀ L s'.heap ((⟨Rg, rt, rk, P, Cl, p0, p1, t0, t1, pn, cells, ck, ns, M, (km + 1), (pre ++ post), Cm, kc, C, tc, ⟨Qa, D, act, ina, nba, late, later, ts, now, tnow, head, th, va, ka, vi, ki, vn, kn, vl, kl, od⟩, les, S⟩ : LS).led w T') → Taken rows least rs pre r post → Good w (⟨Rg, rt, rk, P, Cl, p0, p1, t0, t1, pn, cells, ck, ns, M, (km + 1), (pre ++ post), Cm, kc, C, tc, ⟨Qa, D, act, ina, nba, late, later, ts, now, tnow, head, th, va, ka, vi, ki, vn, kn, vl, kl, od⟩, les, S⟩ : LS) T' rest → Q (.int r.st t) s')) :
    wpAny (model prg w) (ktrTop dp un gd cn cs L a ccd cl outer) (call (.ref 96) [.ref M]) Q E s := by
  refine Ctr.use (c_law_taken G hz hb) B F X N Tp hk hdp hu ?_
  rintro r n h' tk' F' N' (⟨h1, rfl, rfl⟩ | ⟨least, rs, pre, r, post, t, T', h1, rfl, rfl, G'⟩)
  · exact k1 _ (rl.upd h' tk') F' N' h1
  · exact k2 least rs pre r post t T' _ (rl.upd h' tk') F' N' h1 G'
theorem u_law_next (G : Good w (⟨Rg, rt, rk, P, Cl, p0, p1, t0, t1, pn, cells, ck, ns, M, km, rows, Cm, kc, C, tc, ⟨Qa, D, act, ina, nba, late, later, ts, now, tnow, head, th, va, ka, vi, ki, vn, kn, vl, kl, od⟩, les, S⟩ : LS) T rest) (hz : rows.length ≤ 1000) (rl : Rel s₁ s) (B : Below A₀ base outer h₀) (F : Fr h₀ L s.heap m) (X : (hd.heap_39 w.params).In h₀) (N : News h₀ L s.heap ((⟨Rg, rt, rk, P, Cl, p0, p1, t0, t1, pn, cells, ck, ns, M, km, rows, Cm, kc, C, tc, ⟨Qa, D, act, ina, nba, late, later, ts, now, tnow, head, th, va, ka, vi, ki, vn, kn, vl, kl, od⟩, les, S⟩ : LS).led w T)) (Tp : Top hd.view_39 (looseW hd.view_39 []) mean mg mb h₀) (hk : cs.kind = .function) (hdp : dp + 10 * 1 < recursionLimit) (hu : un + 1000 * 1 < cLine)
    (k : (∀ (due : Int) (t : Tok) (s' : Shared), Rel s₁ s' → Fr h₀ L s'.heap m → News h₀ L s'.heap ((⟨Rg, rt, rk, P, Cl, p0, p1, t0, t1, pn, cells, ck, ns, M, km, rows, Cm, kc, C, tc, ⟨Qa, D, act, ina, nba, late, later, ts, now, tnow, head, th, va, ka, vi, ki, vn, kn, vl, kl, od⟩, les, S⟩ : LS).led w T) → NextIs ((rows.filter fun r => decide (0 < r.tm)).map (·.tm)) due → Q (.int due t) s')) :
    wpAny (model prg w) (ktrTop dp un gd cn cs L a ccd cl outer) (call (.ref 101) [.ref M]) Q E s := by
  refine Ctr.use (c_law_next G hz) B F X N Tp hk hdp hu ?_
  rintro r n h' tk' F' N' ⟨rfl, x, t, rfl, h1⟩
  exact k x t _ (rl.upd h' tk') F' N' h1
theorem u_next_time {C9 nw due : Int} {n9 : Nat} (hsim : Sim S (plp les) (rows.map MR.pl) C9 nw n9) (hdue : NextIs ((rows.filter fun r => decide (0 < r.tm)).map (·.tm)) due) (G : Good w (⟨Rg, rt, rk, P, Cl, p0, p1, t0, t1, pn, cells, ck, ns, M, km, rows, Cm, kc, C, tc, ⟨Qa, D, act, ina, nba, late, later, ts, now, tnow, head, th, va, ka, vi, ki, vn, kn, vl, kl, od⟩, les, S⟩ : LS) T rest) (hz : les.length ≤ 60) (rl : Rel s₁ s) (B : Below A₀ base outer h₀) (F : Fr h₀ L s.heap m) (X : (hd.heap_39 w.params).In h₀) (N : News h₀ L s.heap ((⟨Rg, rt, rk, P, Cl, p0, p1, t0, t1, pn, cells, ck, ns, M, km, rows, Cm, kc, C, tc, ⟨Qa, D, act, ina, nba, late, later, ts, now, tnow, head, th, va, ka, vi, ki, vn, kn, vl, kl, od⟩, les, S⟩ : LS).led w T)) (Tp : Top hd.view_39 (looseW hd.view_39 []) mean mg mb h₀) (hk : cs.kind = .function) (hdp : dp + 10 * 1 < recursionLimit) (hu : un + 1000 * 1 < cLine)
    (k1 : (∀ (t : Tok) (s' : Shared), Rel s₁ s' → Fr h₀ L s'.heap m → News h₀ L s'.heap ((⟨Rg, rt, rk, P, Cl, p0, p1, t0, t1, pn, cells, ck, ns, M, km, rows, Cm, kc, C, tc, ⟨Qa, D, act, ina, nba, late, later, ts, now, tnow, head, th, va, ka, vi, ki, vn, kn, vl, kl, od⟩, les, S⟩ : LS).led w T) → due = -1 → plp les = [] → Q (.int (-1) t) s'))
    (k2 : (∀ (t : Tok) (s' : Shared), Rel s₁ s' → Fr h₀ L s'.heap m → News h₀ L s'.heap ((⟨Rg, rt, rk, P, Cl, p0, p1, t0, t1, pn, cells, ck, ns, M, km, rows, Cm, kc, C, tc, ⟨Qa, D, act, ina, nba, late, later, ts, now, tnow, head, th, va, ka, vi, ki, vn, kn, vl, kl, od⟩, les, S⟩ : LS).led w T) → 0 < due → plp les ≠ [] → Q (.int (nw + due) t) s')) :
    wpAny (model prg w) (ktrTop dp un gd cn cs L a ccd cl outer) (call (.ref 63) [.ref Qa]) Q E s := by
  refine Ctr.use (c_next_time G hz) B F X N Tp hk hdp hu ?_
  rintro r n h' tk' F' N' ⟨rfl, x, t, rfl, h1⟩
  rcases sim_next hsim (by rw [plp_keys]; exact h1) (by rw [← pl_pos]; exact hdue) with ⟨e1, rfl, e3, e4⟩ | ⟨e1, rfl, e3⟩
  · exact k1 t _ (rl.upd h' tk') F' N' e1 e3
  · exact k2 t _ (rl.upd h' tk') F' N' e1 e3
theorem u_advance (G : Good w (⟨Rg, rt, rk, P, Cl, p0, p1, t0, t1, pn, cells, ck, ns, M, km, rows, Cm, kc, C, tc, ⟨Qa, D, act, ina, nba, late, later, ts, now, tnow, head, th, va, ka, vi, ki, vn, kn, vl, kl, od⟩, les, S⟩ : LS) T rest) (hz : S.cap 500) (hn : les.length ≤ 60) (hpos : ∀ e ∈ les, 0 ≤ e.t) (hreg : ∀ e ∈ les, e.rows.length ≤ 400 ∧ ∀ r ∈ e.rows, r.reg < 4) (rl : Rel s₁ s) (B : Below A₀ base outer h₀) (F : Fr h₀ L s.heap m) (X : (hd.heap_39 w.params).In h₀) (N : News h₀ L s.heap ((⟨Rg, rt, rk, P, Cl, p0, p1, t0, t1, pn, cells, ck, ns, M, km, rows, Cm, kc, C, tc, ⟨Qa, D, act, ina, nba, late, later, ts, now, tnow, head, th, va, ka, vi, ki, vn, kn, vl, kl, od⟩, les, S⟩ : LS).led w T)) (Tp : Top hd.view_39 (looseW hd.view_39 []) mean mg mb h₀) (hk : cs.kind = .function) (hdp : dp + 10 * 3 < recursionLimit) (hu : un + 1000 * 3 < cLine)
    (k1 : (∀  (s' : Shared), Rel s₁ s' → Fr h₀ L s'.heap m → News h₀ L s'.heap ((⟨Rg, rt, rk, P, Cl, p0, p1, t0, t1, pn, cells, ck, ns, M, km, rows, Cm, kc, C, tc, ⟨Qa, D, act, ina, nba, late, later, ts, now, tnow, head, th, va, ka, vi, ki, vn, kn, vl, kl, od⟩, les, S⟩ : LS).led w T) → les = [] → Q (.bool false) s'))
    (k2 : (∀ (pre : List LE) (e : LE) (post : List LE) (D9 : Addr) (act9 : Addr) (ina9 : Addr) (nba9 : Addr) (late9 : Addr) (later9 : Addr) (ts9 : Nat → Nat) (now9 : Int) (tnow9 : Tok) (head9 : Int) (th9 : Tok) (va9 : List Value) (ka9 : Nat) (vi9 : List Value) (ki9 : Nat) (vn9 : List Value) (kn9 : Nat) (vl9 : List Value) (kl9 : Nat) (od9 : Obj) (T' : List (Addr × Obj)) (s' : Shared), Rel s₁ s' → Fr h₀ L s'.heap m → News h₀ L s'.heap ((⟨Rg, rt, rk, P, Cl, p0, p1, t0, t1, pn, cells, ck, ns, M, km, rows, Cm, kc, C, tc, ⟨Qa, D9, act9, ina9, nba9, late9, later9, ts9, now9, tnow9, head9, th9, va9, ka9, vi9, ki9, vn9, kn9, vl9, kl9, od9⟩, (pre ++ post), { S.addAll e.rows with now := e.t }⟩ : LS).led w T') → les = pre ++ e :: post → (∀ e' ∈ les, e.t ≤ e'.t) → Good w (⟨Rg, rt, rk, P, Cl, p0, p1, t0, t1, pn, cells, ck, ns, M, km, rows, Cm, kc, C, tc, ⟨Qa, D9, act9, ina9, nba9, late9, later9, ts9, now9, tnow9, head9, th9, va9, ka9, vi9, ki9, vn9, kn9, vl9, kl9, od9⟩, (pre ++ post), { S.addAll e.rows with now := e.t }⟩ : LS) T' rest → Q (.bool true) s')) :
    wpAny (model prg w) (ktrTop dp un gd cn cs L a ccd cl outer) (call (.ref 70) [.ref Qa]) Q E s := by
  refine Ctr.use (c_advance G hz hn hpos hreg) B F X N Tp hk hdp hu ?_
  rintro r n h' tk' F' N' (⟨h1, rfl, rfl⟩ | ⟨pre, e, post, ⟨Qa9, D9, act9, ina9, nba9, late9, later9, ts9, now9, tnow9, head9, th9, va9, ka9, vi9, ki9, vn9, kn9, vl9, kl9, od9⟩, T', h1, h2, rfl, q, rfl, G'⟩)
  · exact k1 _ (rl.upd h' tk') F' N' h1
  · dsimp only at q
    subst q
    exact k2 pre e post D9 act9 ina9 nba9 late9 later9 ts9 now9 tnow9 head9 th9 va9 ka9 vi9 ki9 vn9 kn9 vl9 kl9 od9 T' _ (rl.upd h' tk') F' N' h1 h2 G'
theorem u_law_advanced (G : Good w (⟨Rg, rt, rk, P, Cl, p0, p1, t0, t1, pn, cells, ck, ns, M, km, rows, Cm, kc, C, tc, ⟨Qa, D, act, ina, nba, late, later, ts, now, tnow, head, th, va, ka, vi, ki, vn, kn, vl, kl, od⟩, les, S⟩ : LS) T rest) (hz : rows.length ≤ 1000) (hb : ∀ r ∈ rows, 0 ≤ r.tm ∧ r.tm ≤ 10 ^ 30) (rl : Rel s₁ s) (B : Below A₀ base outer h₀) (F : Fr h₀ L s.heap m) (X : (hd.heap_39 w.params).In h₀) (N : News h₀ L s.heap ((⟨Rg, rt, rk, P, Cl, p0, p1, t0, t1, pn, cells, ck, ns, M, km, rows, Cm, kc, C, tc, ⟨Qa, D, act, ina, nba, late, later, ts, now, tnow, head, th, va, ka, vi, ki, vn, kn, vl, kl, od⟩, les, S⟩ : LS).led w T)) (Tp : Top hd.view_39 (looseW hd.view_39 []) mean mg mb h₀) (hk : cs.kind = .function) (hdp : dp + 10 * 2 < recursionLimit) (hu : un + 1000 * 2 < cLine)
    (k1 : (∀  (s' : Shared), Rel s₁ s' → Fr h₀ L s'.heap m → News h₀ L s'.heap ((⟨Rg, rt, rk, P, Cl, p0, p1, t0, t1, pn, cells, ck, ns, M, km, rows, Cm, kc, C, tc, ⟨Qa, D, act, ina, nba, late, later, ts, now, tnow, head, th, va, ka, vi, ki, vn, kn, vl, kl, od⟩, les, S⟩ : LS).led w T) → ((rows.filter fun r => decide (0 < r.tm)).map (·.tm)) = [] → Q (.bool false) s'))
    (k2 : (∀ (step : Int) (rs : List MR) (tc' : Tok) (kc' : Nat) (T' : List (Addr × Obj)) (s' : Shared), Rel s₁ s' → Fr h₀ L s'.heap m → News h₀ L s'.heap ((⟨Rg, rt, rk, P, Cl, p0, p1, t0, t1, pn, cells, ck, ns, M, km, rs, Cm, kc', (C + cntS step (rows.map MR.pl)), tc', ⟨Qa, D, act, ina, nba, late, later, ts, now, tnow, head, th, va, ka, vi, ki, vn, kn, vl, kl, od⟩, les, S⟩ : LS).led w T') → NextIs ((rows.filter fun r => decide (0 < r.tm)).map (·.tm)) step → 0 < step → rs.map MR.pl = (renum step C (rows.map MR.pl)).map (shift step) → Good w (⟨Rg, rt, rk, P, Cl, p0, p1, t0, t1, pn, cells, ck, ns, M, km, rs, Cm, kc', (C + cntS step (rows.map MR.pl)), tc', ⟨Qa, D, act, ina, nba, late, later, ts, now, tnow, head, th, va, ka, vi, ki, vn, kn, vl, kl, od⟩, les, S⟩ : LS) T' rest → Q (.bool true) s')) :
    wpAny (model prg w) (ktrTop dp un gd cn cs L a ccd cl outer) (call (.ref 108) [.ref M, .ref Cm]) Q E s := by
  refine Ctr.use (c_law_advanced G hz hb) B F X N Tp hk hdp hu ?_
  rintro r n h' tk' F' N' (⟨h1, rfl, rfl⟩ | ⟨step, rs, tc', kc', T', h1, h2, rfl, h3, rfl, G'⟩)
  · exact k1 _ (rl.upd h' tk') F' N' h1
  · exact k2 step rs tc' kc' T' _ (rl.upd h' tk') F' N' h1 h2 h3 G'
theorem u_pending {C9 nw : Int} {n9 : Nat} (hsim : Sim S (plp les) (rows.map MR.pl) C9 nw n9) (G : Good w (⟨Rg, rt, rk, P, Cl, p0, p1, t0, t1, pn, cells, ck, ns, M, km, rows, Cm, kc, C, tc, ⟨Qa, D, act, ina, nba, late, later, ts, now, tnow, head, th, va, ka, vi, ki, vn, kn, vl, kl, od⟩, les, S⟩ : LS) T rest) (hz : S.cap 1000) (hh : S.head ≤ S.act.length) (hn : les.length ≤ 60) (hreg : ∀ e ∈ les, e.rows.length ≤ 400) (rl : Rel s₁ s) (B : Below A₀ base outer h₀) (F : Fr h₀ L s.heap m) (X : (hd.heap_39 w.params).In h₀) (N : News h₀ L s.heap ((⟨Rg, rt, rk, P, Cl, p0, p1, t0, t1, pn, cells, ck, ns, M, km, rows, Cm, kc, C, tc, ⟨Qa, D, act, ina, nba, late, later, ts, now, tnow, head, th, va, ka, vi, ki, vn, kn, vl, kl, od⟩, les, S⟩ : LS).led w T)) (Tp : Top hd.view_39 (looseW hd.view_39 []) mean mg mb h₀) (hk : cs.kind = .function) (hdp : dp + 10 * 1 < recursionLimit) (hu : un + 1000 * 1 < cLine)
    (k : (∀ (t : Tok) (s' : Shared), Rel s₁ s' → Fr h₀ L s'.heap m → News h₀ L s'.heap ((⟨Rg, rt, rk, P, Cl, p0, p1, t0, t1, pn, cells, ck, ns, M, km, rows, Cm, kc, C, tc, ⟨Qa, D, act, ina, nba, late, later, ts, now, tnow, head, th, va, ka, vi, ki, vn, kn, vl, kl, od⟩, les, S⟩ : LS).led w T) → Q (.int (rows.length : Int) t) s')) :
    wpAny (model prg w) (ktrTop dp un gd cn cs L a ccd cl outer) (call (.ref 77) [.ref Qa]) Q E s := by
  refine Ctr.use (c_pending G hz hh hn hreg) B F X N Tp hk hdp hu ?_
  rintro r n h' tk' F' N' ⟨rfl, t, rfl⟩
  dsimp only
  rw [sim_pend hsim]
  exact k t _ (rl.upd h' tk') F' N'
theorem tbE (G : Good w (⟨Rg, rt, rk, P, Cl, p0, p1, t0, t1, pn, cells, ck, ns, M, km, rows, Cm, kc, C, tc, ⟨Qa, D, act, ina, nba, late, later, ts, now, tnow, head, th, va, ka, vi, ki, vn, kn, vl, kl, od⟩, les, S⟩ : LS) T rest) (k : Qa ≠ M → D ≠ M → act ≠ M → ina ≠ M → nba ≠ M → late ≠ M → later ≠ M → Rg ≠ M → P ≠ M → Cl ≠ M → Qa ≠ Cm → D ≠ Cm → act ≠ Cm → ina ≠ Cm → nba ≠ Cm → late ≠ Cm → later ≠ Cm → Rg ≠ Cm → P ≠ Cm → Cl ≠ Cm → M ≠ Cm → OwnOff T [Qa, D, act, ina, nba, late, later, Rg, P, Cl, M, Cm] → goal) : goal := by
  have h := G.nd
  dsimp only [LS.led, LS.regs, LS.pool, QC.led, qd, List.cons_append, List.nil_append] at h
  obtain ⟨⟨m1, m2, m3, m4, m5, m6, m7, m8, m9, m10⟩, ⟨x1, x2, x3, x4, x5, x6, x7, x8, x9, x10, x11⟩, hoff⟩ := nd12 h
  exact k m1 m2 m3 m4 m5 m6 m7 m8 m9 m10 x1 x2 x3 x4 x5 x6 x7 x8 x9 x10 x11 hoff
theorem sim_okE {C9 nw : Int} {n9 : Nat} (h : Sim S (plp les) (rows.map MR.pl) C9 nw n9) (hn : n9 ≤ 41) (h0 : 0 ≤ nw) (k : S.cap 500 → S.cap 1000 → S.small → les.length ≤ 60 → (∀ e ∈ les, e.rows.length ≤ 400) → (∀ e ∈ les, e.rows.length ≤ 400 ∧ ∀ r ∈ e.rows, r.reg < 4) → (∀ e ∈ les, 0 ≤ e.t) → rows.length ≤ 41 → (∀ r ∈ rows, 0 ≤ r.tm ∧ r.tm ≤ 10 ^ 30) → S.head ≤ S.act.length → goal) : goal := by
  obtain ⟨a1, a2, a3, a4, a5, a6, a7, a8, a9, a10⟩ := sim_ok h hn h0
  exact k a1 a2 a3 a4 a5 a6 a7 a8 a9 a10
theorem push_convE {h : Heap} {a : Addr} {k : Nat} {tm rg cg st C' : Int} {y1 y2 y3 y4 tc' : Tok} {kc' : Nat} (G : Good w (⟨Rg, rt, rk, P, Cl, p0, p1, t0, t1, pn, cells, ck, ns, M, km, rows, Cm, kc, C, tc, ⟨Qa, D, act, ina, nba, late, later, ts, now, tnow, head, th, va, ka, vi, ki, vn, kn, vl, kl, od⟩, les, S⟩ : LS) T rest)
    (N : News h₀ L h ((a, W.listOf #[.int tm y1, .int rg y2, .int cg y3, .int st y4] k) :: ((⟨Qa, D, act, ina, nba, late, later, ts, now, tnow, head, th, va, ka, vi, ki, vn, kn, vl, kl, od⟩ : QC).led w ++ ((Rg, (⟨Rg, rt, rk, P, Cl, p0, p1, t0, t1, pn, cells, ck, ns, M, km, rows, Cm, kc, C, tc, ⟨Qa, D, act, ina, nba, late, later, ts, now, tnow, head, th, va, ka, vi, ki, vn, kn, vl, kl, od⟩, les, S⟩ : LS).regs) :: (P, (⟨Rg, rt, rk, P, Cl, p0, p1, t0, t1, pn, cells, ck, ns, M, km, rows, Cm, kc, C, tc, ⟨Qa, D, act, ina, nba, late, later, ts, now, tnow, head, th, va, ka, vi, ki, vn, kn, vl, kl, od⟩, les, S⟩ : LS).pool) :: (Cl, lo cells ck) :: (M, lo (mrefs rows ++ [.ref a]) (km + 1)) :: (Cm, W.listOf #[.int C' tc'] kc') :: T))))
    (fresh : a ∉ ((⟨Rg, rt, rk, P, Cl, p0, p1, t0, t1, pn, cells, ck, ns, M, km, rows, Cm, kc, C, tc, ⟨Qa, D, act, ina, nba, late, later, ts, now, tnow, head, th, va, ka, vi, ki, vn, kn, vl, kl, od⟩, les, S⟩ : LS).led w T).map (·.1))
    (k : ∀ T', News h₀ L h ((⟨Rg, rt, rk, P, Cl, p0, p1, t0, t1, pn, cells, ck, ns, M, (km + 1), (rows ++ [⟨a, k, tm, rg, cg, st, y1, y2, y3, y4⟩]), Cm, kc', C', tc', ⟨Qa, D, act, ina, nba, late, later, ts, now, tnow, head, th, va, ka, vi, ki, vn, kn, vl, kl, od⟩, les, S⟩ : LS).led w T') → Good w (⟨Rg, rt, rk, P, Cl, p0, p1, t0, t1, pn, cells, ck, ns, M, (km + 1), (rows ++ [⟨a, k, tm, rg, cg, st, y1, y2, y3, y4⟩]), Cm, kc', C', tc', ⟨Qa, D, act, ina, nba, late, later, ts, now, tnow, head, th, va, ka, vi, ki, vn, kn, vl, kl, od⟩, les, S⟩ : LS) T' rest → goal) : goal := by
  obtain ⟨T', N', G'⟩ := push_conv G N fresh
  exact k T' N' G'
theorem menu_inE {h : Heap} {a : Addr} {o : Obj} (G : Good w (⟨Rg, rt, rk, P, Cl, p0, p1, t0, t1, pn, cells, ck, ns, M, km, rows, Cm, kc, C, tc, ⟨Qa, D, act, ina, nba, late, later, ts, now, tnow, head, th, va, ka, vi, ki, vn, kn, vl, kl, od⟩, les, S⟩ : LS) T rest) (N : News h₀ L h ((a, o) :: (⟨Rg, rt, rk, P, Cl, p0, p1, t0, t1, pn, cells, ck, ns, M, km, rows, Cm, kc, C, tc, ⟨Qa, D, act, ina, nba, late, later, ts, now, tnow, head, th, va, ka, vi, ki, vn, kn, vl, kl, od⟩, les, S⟩ : LS).led w T)) (fresh : a ∉ ((⟨Rg, rt, rk, P, Cl, p0, p1, t0, t1, pn, cells, ck, ns, M, km, rows, Cm, kc, C, tc, ⟨Qa, D, act, ina, nba, late, later, ts, now, tnow, head, th, va, ka, vi, ki, vn, kn, vl, kl, od⟩, les, S⟩ : LS).led w T).map (·.1))
    (k : ∀ T', News h₀ L h ((⟨Rg, rt, rk, P, Cl, p0, p1, t0, t1, pn, cells, ck, ns, M, km, rows, Cm, kc, C, tc, ⟨Qa, D, act, ina, nba, late, later, ts, now, tnow, head, th, va, ka, vi, ki, vn, kn, vl, kl, od⟩, les, S⟩ : LS).led w T') → Good w (⟨Rg, rt, rk, P, Cl, p0, p1, t0, t1, pn, cells, ck, ns, M, km, rows, Cm, kc, C, tc, ⟨Qa, D, act, ina, nba, late, later, ts, now, tnow, head, th, va, ka, vi, ki, vn, kn, vl, kl, od⟩, les, S⟩ : LS) T' ((a, o) :: rest) → (a, o) ∈ T' → goal) : goal := by
  obtain ⟨T', N', G', hm⟩ := menu_in G N fresh
  exact k T' N' G' hm
theorem init_stateE {h : Heap} {k0 k1 k2 k3 k4 k5 k6 r0 r1 r2 r3 : Tok} {more : List (Addr × Obj)} {goal : Prop}
    (N : News h₀ L h ((Cm, W.listOf #[.int 0 tc] 0) :: (M, W.listOf #[] 0) :: (later, od) :: (late, W.listOf #[] 0) :: (nba, W.listOf #[] 0) :: (ina, W.listOf #[] 0) :: (act, W.listOf #[] 0) :: (Qa, instObj 80 D) ::
      (D, dictOf [⟨PyData.keyHash w.params "now", .str "now" k0, .int 0 tnow⟩, ⟨PyData.keyHash w.params "active", .str "active" k1, .ref act⟩,
   ⟨PyData.keyHash w.params "head", .str "head" k2, .int 0 th⟩, ⟨PyData.keyHash w.params "inactive", .str "inactive" k3, .ref ina⟩,
   ⟨PyData.keyHash w.params "nba", .str "nba" k4, .ref nba⟩, ⟨PyData.keyHash w.params "late", .str "late" k5, .ref late⟩, ⟨PyData.keyHash w.params "later", .str "later" k6, .ref later⟩] 7) ::
      (Rg, W.listOf #[.str "active" r0, .str "inactive" r1, .str "nba" r2, .str "late" r3] rk) :: (P, W.listOf #[.int 0 t0, .int 0 t1, .ref Cl] pn) :: (Cl, W.listOf cells.toArray ck) :: more))
    (c1 : @LT.lt Nat _ Cl P) (c2 : @LT.lt Nat _ P Rg) (c3 : @LT.lt Nat _ Rg D) (c4 : @LT.lt Nat _ D Qa) (c5 : @LT.lt Nat _ Qa act) (c6 : @LT.lt Nat _ act ina) (c7 : @LT.lt Nat _ ina nba) (c8 : @LT.lt Nat _ nba late) (c9 : @LT.lt Nat _ late later) (c10 : @LT.lt Nat _ later M) (c11 : @LT.lt Nat _ M Cm)
    (hod : od.IsDictOf (PySem.intKind prg w) []) (hlo : (later == sysModules) = false) (hi : IntsAre cells ns) (h0 : 0 < ns.length) (h40 : ns.length ≤ 40)
    (k : ∀ (rt' : Nat → Tok) (ts' : Nat → Nat), News h₀ L h ((⟨Rg, rt', rk, P, Cl, 0, 0, t0, t1, pn, cells, ck, ns, M, 0, [], Cm, 0, 0, tc, ⟨Qa, D, act, ina, nba, late, later, ts', 0, tnow, 0, th, [], 0, [], 0, [], 0, [], 0, od⟩, [], ⟨0, 0, [], [], [], []⟩⟩ : LS).led w []) → Good w (⟨Rg, rt', rk, P, Cl, 0, 0, t0, t1, pn, cells, ck, ns, M, 0, [], Cm, 0, 0, tc, ⟨Qa, D, act, ina, nba, late, later, ts', 0, tnow, 0, th, [], 0, [], 0, [], 0, [], 0, od⟩, [], ⟨0, 0, [], [], [], []⟩⟩ : LS) [] [] → Sim ⟨0, 0, [], [], [], []⟩ (plp []) (([] : List MR).map MR.pl) 0 0 0 → goal) : goal := by
  refine k (ts4 r0 r1 r2 r3) (ts7 k0 k1 k2 k3 k4 k5 k6) (newsSub N mem12) ?_ sim_init
  refine ⟨rfl, ?_, ⟨rfl, rfl, IntsAre.nil, IntsAre.nil, IntsAre.nil, IntsAre.nil⟩, hod, hlo, hi, h0, h40, ⟨Int.le_refl _, by show (0 : Int) < 10 ^ 60; decide⟩, Int.le_refl _⟩
  have hn : ([Cl, P, Rg, D, Qa] ++ ([act, ina, nba, late, later] ++ [M, Cm])).Nodup := Up.nodup ⟨c1, c2, c3, c4, c5, c6, c7, c8, c9, c10, c11, trivial⟩
  have p1 : ([Cl, P, Rg, D, Qa] : List Addr).Perm [Qa, D, Rg, P, Cl] := (List.reverse_perm [Cl, P, Rg, D, Qa]).symm
  exact (((p1.append_right _).trans (List.Perm.append_left [Qa, D] (mv1 (a := [Rg, P, Cl]) (b := [act, ina, nba, late, later]) (X := [M, Cm])))).nodup_iff).mp hn
def now0 : Str := Str.ofString "now"
def zs4 : List Str := [Str.ofString "deed", Str.ofString "region", Str.ofString "delay", Str.ofString "due"]
def zs3 : List Str := [Str.ofString "region", Str.ofString "delay", Str.ofString "due"]
def RPost (R : Flow → Shared → Prop) (f : Flow) (s : Shared) : Prop := R f s
def Law9 (w : World) (Rg P M Cm Qa : Addr) (rest : List (Addr × Obj)) (i : Nat) (c : Value) (n' : List (Addr × Obj)) : Prop :=
  ∃ (σ : LS) (T : List (Addr × Obj)) (nw : Int) (tn : Tok), c = .int nw tn ∧ n' = σ.led w T ∧ Inv w Rg P M Cm Qa σ T rest nw i (1 + 4 * i)
def JF (w : World) (Rg P M Cm Qa : Addr) (x : Str) (m : Str → Option Value) (i : Nat) (m' : Str → Option Value) (n' : List (Addr × Obj)) : Prop :=
  (∀ z, z ≠ x → z ≠ Str.ofString "now" → [Str.ofString "deed", Str.ofString "region", Str.ofString "delay", Str.ofString "due"].contains z = false → m' z = m z) ∧ ∃ c', m' (Str.ofString "now") = some c' ∧ Law9 w Rg P M Cm Qa [] i c' n'
def JS (w : World) (Rg P M Cm Qa : Addr) (rest : List (Addr × Obj)) (m : Str → Option Value) (i : Nat) (m' : Str → Option Value) (n' : List (Addr × Obj)) : Prop :=
  (∀ z, z ≠ Str.ofString "now" → [Str.ofString "region", Str.ofString "delay", Str.ofString "due"].contains z = false → m' z = m z) ∧ ∃ c', m' (Str.ofString "now") = some c' ∧ Law9 w Rg P M Cm Qa rest i c' n'
def meas (rows : List MR) : Nat := 2 * rows.length + (if (fr rows).length = 0 then 1 else 0)
def JW (w : World) (Rg P M Cm Qa : Addr) (m : Str → Option Value) (n : Nat) (m' : Str → Option Value) (n' : List (Addr × Obj)) : Prop :=
  (∀ z, z ≠ Str.ofString "now" → [Str.ofString "due"].contains z = false → m' z = m z) ∧ ∃ c', m' (Str.ofString "now") = some c' ∧
    ∃ (σ : LS) (T : List (Addr × Obj)) (nw : Int) (tn : Tok), c' = .int nw tn ∧ n' = σ.led w T ∧ Inv w Rg P M Cm Qa σ T [] nw 41 1000 ∧ n = meas σ.rows
theorem Inv.of {nw : Int} {i : Nat} {b : Int} (G : Good w (⟨Rg, rt, rk, P, Cl, p0, p1, t0, t1, pn, cells, ck, ns, M, km, rows, Cm, kc, C, tc, ⟨Qa, D, act, ina, nba, late, later, ts, now, tnow, head, th, va, ka, vi, ki, vn, kn, vl, kl, od⟩, les, S⟩ : LS) T rest) (hs : Sim S (plp les) (rows.map MR.pl) C nw i) (hp : p1 ≤ b) (h0 : 0 ≤ nw) : Inv w Rg P M Cm Qa (⟨Rg, rt, rk, P, Cl, p0, p1, t0, t1, pn, cells, ck, ns, M, km, rows, Cm, kc, C, tc, ⟨Qa, D, act, ina, nba, late, later, ts, now, tnow, head, th, va, ka, vi, ki, vn, kn, vl, kl, od⟩, les, S⟩ : LS) T rest nw i b := ⟨G, rfl, rfl, rfl, rfl, rfl, hs, hp, h0⟩
theorem Inv.open {nw : Int} {i : Nat} {b : Int} {σ : LS} (I : Inv w Rg P M Cm Qa σ T rest nw i b) (hi : i ≤ 41)
    (k : ∀ (rt : Nat → Tok) (rk : Nat) (Cl : Addr) (p0 : Int) (p1 : Int) (t0 : Tok) (t1 : Tok) (pn : Nat) (cells : List Value) (ck : Nat) (ns : List Int) (km : Nat) (rows : List MR) (kc : Nat) (C : Int) (tc : Tok) (D : Addr) (act : Addr) (ina : Addr) (nba : Addr) (late : Addr) (later : Addr) (ts : Nat → Nat) (now : Int) (tnow : Tok) (head : Int) (th : Tok) (va : List Value) (ka : Nat) (vi : List Value) (ki : Nat) (vn : List Value) (kn : Nat) (vl : List Value) (kl : Nat) (od : Obj) (les : List LE) (S : QS), σ = (⟨Rg, rt, rk, P, Cl, p0, p1, t0, t1, pn, cells, ck, ns, M, km, rows, Cm, kc, C, tc, ⟨Qa, D, act, ina, nba, late, later, ts, now, tnow, head, th, va, ka, vi, ki, vn, kn, vl, kl, od⟩, les, S⟩ : LS) → Good w (⟨Rg, rt, rk, P, Cl, p0, p1, t0, t1, pn, cells, ck, ns, M, km, rows, Cm, kc, C, tc, ⟨Qa, D, act, ina, nba, late, later, ts, now, tnow, head, th, va, ka, vi, ki, vn, kn, vl, kl, od⟩, les, S⟩ : LS) T rest → Sim S (plp les) (rows.map MR.pl) C nw i → p1 ≤ b → 0 ≤ nw → S.cap 500 → S.cap 1000 → S.small → les.length ≤ 60 → (∀ e ∈ les, e.rows.length ≤ 400) → (∀ e ∈ les, e.rows.length ≤ 400 ∧ ∀ r ∈ e.rows, r.reg < 4) → (∀ e ∈ les, 0 ≤ e.t) → rows.length ≤ 41 → (∀ r ∈ rows, 0 ≤ r.tm ∧ r.tm ≤ 10 ^ 30) → S.head ≤ S.act.length → goal) : goal := by
  obtain ⟨G2, hrg, hpp, hmm, hcm, hqq, hsim, hp1, hnw0⟩ := I
  obtain ⟨Rg9, rt, rk, P9, Cl, p0, p1, t0, t1, pn, cells, ck, ns, M9, km, rows, Cm9, kc, C, tc, ⟨Qa9, D, act, ina, nba, late, later, ts, now, tnow, head, th, va, ka, vi, ki, vn, kn, vl, kl, od⟩, les, S⟩ := σ
  dsimp only at hrg hpp hmm hcm hqq hsim hp1
  (have hrg := hrg.symm); (have hpp := hpp.symm); (have hmm := hmm.symm); (have hcm := hcm.symm); (have hqq := hqq.symm)
  subst hrg; subst hpp; subst hmm; subst hcm; subst hqq
  refine sim_okE hsim hi hnw0 ?_
  exact k rt rk Cl p0 p1 t0 t1 pn cells ck ns km rows kc C tc D act ina nba late later ts now tnow head th va ka vi ki vn kn vl kl od les S rfl G2 hsim hp1 hnw0
theorem Inv.enter {nw : Int} {i : Nat} {b : Int} {σ : LS} {I : Addr} {oI : Obj} (J : Inv w Rg P M Cm Qa σ T [] nw i b) (off : ∀ p ∈ σ.led w T, p.1 ≠ I) :
    ∃ T', Inv w Rg P M Cm Qa σ T' [(I, oI)] nw i b ∧ ∀ p ∈ σ.led w T', p ∈ (I, oI) :: σ.led w T := by
  obtain ⟨G2, hs2⟩ := J.good.enter (oI := oI) off
  exact ⟨_, ⟨G2, J.rg, J.p, J.m, J.cm, J.q, J.sim, J.p1, J.now0⟩, hs2⟩
end
section
variable {prog : Program} {w : World} {A : Around} {E : Value → Shared → Prop} {s sb : Shared} {env : Env} {h₀ : Heap} {L : Addr} {x : Str} {body : List Stmt} {Q : Flow → Shared → Prop} {R : Flow → Shared → Prop} {m m' : Str → Option Value}
variable {Rg : Addr} {rt : Nat → Tok} {rk : Nat} {P : Addr} {Cl : Addr} {p0 : Int} {p1 : Int} {t0 : Tok} {t1 : Tok} {pn : Nat} {cells : List Value} {ck : Nat} {ns : List Int} {M : Addr} {km : Nat} {rows : List MR} {Cm : Addr} {kc : Nat} {C : Int} {tc : Tok} {Qa : Addr} {D : Addr} {act : Addr} {ina : Addr} {nba : Addr} {late : Addr} {later : Addr} {ts : Nat → Nat} {now : Int} {tnow : Tok} {head : Int} {th : Tok} {va : List Value} {ka : Nat} {vi : List Value} {ki : Nat} {vn : List Value} {kn : Nat} {vl : List Value} {kl : Nat} {od : Obj} {les : List LE} {S : QS} {T rest : List (Addr × Obj)}
theorem lawFor {r : Addr} {ta ua va' : Tok} {b : Int} {n : Nat} {σ₀ : LS} {T₀ : List (Addr × Obj)} {nw₀ : Int} {tn₀ : Tok} (I₁ : Inv w Rg P M Cm Qa σ₀ T₀ [] nw₀ 0 1)
    (hh : A.handled = none) (hr : IsRange s.heap r 0 b 1 ta ua va') (hbn : b = (n : Int)) (hz : n ≤ 41) (F : Fr h₀ env.locals s.heap m) (N : News h₀ env.locals s.heap (σ₀.led w T₀)) (hy : m (Str.ofString "now") = some (.int nw₀ tn₀)) (hxy : Str.ofString "now" ≠ x)
    (turn : ∀ (i : Nat) (t : Tok) (u : Str → Option Value) (sb : Shared) (I : Addr) (oI : Obj) (nw : Int) (tn : Tok) (rt : Nat → Tok) (rk : Nat) (Cl : Addr) (p0 : Int) (p1 : Int) (t0 : Tok) (t1 : Tok) (pn : Nat) (cells : List Value) (ck : Nat) (ns : List Int) (km : Nat) (rows : List MR) (kc : Nat) (C : Int) (tc : Tok) (D : Addr) (act : Addr) (ina : Addr) (nba : Addr) (late : Addr) (later : Addr) (ts : Nat → Nat) (now : Int) (tnow : Tok) (head : Int) (th : Tok) (va : List Value) (ka : Nat) (vi : List Value) (ki : Nat) (vn : List Value) (kn : Nat) (vl : List Value) (kl : Nat) (od : Obj) (les : List LE) (S : QS) (T : List (Addr × Obj)) (R : Flow → Shared → Prop), i < n →
      (∀ s', TEnd h₀ env.locals I oI (JF w Rg P M Cm Qa x m (i + 1)) sb s' → R .next s') → Rel sb sb →
      Fr h₀ env.locals sb.heap (fun y => if y = x then some (.int (i : Nat) t) else if y = Str.ofString "now" then some (.int nw tn) else if [Str.ofString "deed", Str.ofString "region", Str.ofString "delay", Str.ofString "due"].contains y then u y else m y) →
      News h₀ env.locals sb.heap ((⟨Rg, rt, rk, P, Cl, p0, p1, t0, t1, pn, cells, ck, ns, M, km, rows, Cm, kc, C, tc, ⟨Qa, D, act, ina, nba, late, later, ts, now, tnow, head, th, va, ka, vi, ki, vn, kn, vl, kl, od⟩, les, S⟩ : LS).led w T) → Good w (⟨Rg, rt, rk, P, Cl, p0, p1, t0, t1, pn, cells, ck, ns, M, km, rows, Cm, kc, C, tc, ⟨Qa, D, act, ina, nba, late, later, ts, now, tnow, head, th, va, ka, vi, ki, vn, kn, vl, kl, od⟩, les, S⟩ : LS) T [(I, oI)] → Sim S (plp les) (rows.map MR.pl) C nw i → p1 ≤ 1 + 4 * i → 0 ≤ nw → S.cap 500 → S.cap 1000 → S.small → les.length ≤ 60 → (∀ e ∈ les, e.rows.length ≤ 400) → (∀ e ∈ les, e.rows.length ≤ 400 ∧ ∀ r ∈ e.rows, r.reg < 4) → (∀ e ∈ les, 0 ≤ e.t) → rows.length ≤ 41 → (∀ r ∈ rows, 0 ≤ r.tm ∧ r.tm ≤ 10 ^ 30) → S.head ≤ S.act.length → Qa ≠ M → D ≠ M → act ≠ M → ina ≠ M → nba ≠ M → late ≠ M → later ≠ M → Rg ≠ M → P ≠ M → Cl ≠ M → Qa ≠ Cm → D ≠ Cm → act ≠ Cm → ina ≠ Cm → nba ≠ Cm → late ≠ Cm → later ≠ Cm → Rg ≠ Cm → P ≠ Cm → Cl ≠ Cm → M ≠ Cm → OwnOff T [Qa, D, act, ina, nba, late, later, Rg, P, Cl, M, Cm] →
      wpAny (model prog w) A (execs body env) (RPost R) E sb)
    (done : ∀ (u : Str → Option Value) (s' : Shared) (nw : Int) (tn : Tok) (σ : LS) (T : List (Addr × Obj)), Rel s s' → Inv w Rg P M Cm Qa σ T [] nw n (1 + 4 * n) →
      Fr h₀ env.locals s'.heap (fun y => if y = x then u y else if y = Str.ofString "now" then some (.int nw tn) else if [Str.ofString "deed", Str.ofString "region", Str.ofString "delay", Str.ofString "due"].contains y then u y else m y) →
      News h₀ env.locals s'.heap (σ.led w T) → Q .next s') :
    wpAny (model prog w) A (pyIter (.ref r)) (fun it s₂ => LoopAtV prog w A h₀ env x body Q E it s₂) E s := by
  refine iterRX (n := n) (Str.ofString "now") [Str.ofString "deed", Str.ofString "region", Str.ofString "delay", Str.ofString "due"] (fun i c n => Law9 w Rg P M Cm Qa [] i c n) hh hr hbn (by omega) F N hy ⟨σ₀, T₀, nw₀, tn₀, rfl, rfl, I₁⟩ hxy ?_ ?_
  · rintro i t cv u news₁ h tk I oI hi ⟨σ, T, nw, tn, rfl, rfl, Iσ⟩ off F₁ N₁
    obtain ⟨T', I2, hs⟩ := Iσ.enter (oI := oI) off
    have N₂ := newsSub N₁ hs
    refine I2.open (by omega) ?_
    intro rt rk Cl p0 p1 t0 t1 pn cells ck ns km rows kc C tc D act ina nba late later ts now tnow head th va ka vi ki vn kn vl kl od les S e G hsim hp1 hnw a1 a2 a3 a4 a5 a6 a7 a8 a9 a10
    subst e
    exact tbE G (turn i t u { s with heap := h, toks := tk } I oI nw tn rt rk Cl p0 p1 t0 t1 pn cells ck ns km rows kc C tc D act ina nba late later ts now tnow head th va ka vi ki vn kn vl kl od les S T' (TPost h₀ env.locals I oI (JF w Rg P M Cm Qa x m (i + 1)) Q { s with heap := h, toks := tk }) hi (fun s' h => h) (Rel.refl _) F₁ N₂ G hsim hp1 hnw a1 a2 a3 a4 a5 a6 a7 a8 a9 a10)
  · rintro cv u news₁ h tk ⟨σ, T, nw, tn, rfl, rfl, Iσ⟩ F₁ N₁
    exact done u { s with heap := h, toks := tk } nw tn σ T ((Rel.refl s).upd h tk) Iσ F₁ N₁
theorem JF.end {I : Addr} {oI : Obj} {s' : Shared} {nw : Int} {tn : Tok} {i : Nat} (hR : ∀ s', TEnd h₀ L I oI (JF w Rg P M Cm Qa x m i) sb s' → R .next s') (G : Good w (⟨Rg, rt, rk, P, Cl, p0, p1, t0, t1, pn, cells, ck, ns, M, km, rows, Cm, kc, C, tc, ⟨Qa, D, act, ina, nba, late, later, ts, now, tnow, head, th, va, ka, vi, ki, vn, kn, vl, kl, od⟩, les, S⟩ : LS) T [(I, oI)]) (hsim : Sim S (plp les) (rows.map MR.pl) C nw i) (hp1 : p1 ≤ 1 + 4 * i) (hnw : 0 ≤ nw)
    (rl : Rel sb s') (F : Fr h₀ L s'.heap m') (N : News h₀ L s'.heap ((⟨Rg, rt, rk, P, Cl, p0, p1, t0, t1, pn, cells, ck, ns, M, km, rows, Cm, kc, C, tc, ⟨Qa, D, act, ina, nba, late, later, ts, now, tnow, head, th, va, ka, vi, ki, vn, kn, vl, kl, od⟩, les, S⟩ : LS).led w T))
    (hm : ∀ z, z ≠ x → z ≠ Str.ofString "now" → [Str.ofString "deed", Str.ofString "region", Str.ofString "delay", Str.ofString "due"].contains z = false → m' z = m z) (hnow : m' (Str.ofString "now") = some (.int nw tn)) : RPost R .next s' := by
  obtain ⟨Gq, sq, offq⟩ := G.leave
  exact hR s' ⟨s'.heap, s'.toks, m', _, rl.eq, F, newsSub N sq, offq, hm, _, hnow, _, _, nw, tn, rfl, rfl, Inv.of Gq hsim hp1 hnw⟩
theorem lawSeq {st : Stmt} {more : List Stmt} (i : Nat) (hi : i < 41) (_G : Good w (⟨Rg, rt, rk, P, Cl, p0, p1, t0, t1, pn, cells, ck, ns, M, km, rows, Cm, kc, C, tc, ⟨Qa, D, act, ina, nba, late, later, ts, now, tnow, head, th, va, ka, vi, ki, vn, kn, vl, kl, od⟩, les, S⟩ : LS) T rest) (rl : Rel sb s) (F0 : Fr h₀ L s.heap m)
    (h1 : ∀ R : Flow → Shared → Prop, (∀ s' m' n', Rel sb s' → Fr h₀ L s'.heap m' → News h₀ L s'.heap n' → JS w Rg P M Cm Qa rest m (i + 1) m' n' → R .next s') → wpAny (model prog w) A (exec st env) (RPost R) E s)
    (h2 : ∀ (u : Str → Option Value) (s' : Shared) (nw : Int) (tn : Tok) (rt : Nat → Tok) (rk : Nat) (Cl : Addr) (p0 : Int) (p1 : Int) (t0 : Tok) (t1 : Tok) (pn : Nat) (cells : List Value) (ck : Nat) (ns : List Int) (km : Nat) (rows : List MR) (kc : Nat) (C : Int) (tc : Tok) (D : Addr) (act : Addr) (ina : Addr) (nba : Addr) (late : Addr) (later : Addr) (ts : Nat → Nat) (tnow : Tok) (head : Int) (th : Tok) (va : List Value) (ka : Nat) (vi : List Value) (ki : Nat) (vn : List Value) (kn : Nat) (vl : List Value) (kl : Nat) (od : Obj) (les : List LE) (S : QS) (T : List (Addr × Obj)), Rel sb s' → Fr h₀ L s'.heap (fun y => if y = Str.ofString "now" then some (.int nw tn) else if [Str.ofString "region", Str.ofString "delay", Str.ofString "due"].contains y then u y else m y) →
      News h₀ L s'.heap ((⟨Rg, rt, rk, P, Cl, p0, p1, t0, t1, pn, cells, ck, ns, M, km, rows, Cm, kc, C, tc, ⟨Qa, D, act, ina, nba, late, later, ts, nw, tnow, head, th, va, ka, vi, ki, vn, kn, vl, kl, od⟩, les, S⟩ : LS).led w T) → Good w (⟨Rg, rt, rk, P, Cl, p0, p1, t0, t1, pn, cells, ck, ns, M, km, rows, Cm, kc, C, tc, ⟨Qa, D, act, ina, nba, late, later, ts, nw, tnow, head, th, va, ka, vi, ki, vn, kn, vl, kl, od⟩, les, S⟩ : LS) T rest → Sim S (plp les) (rows.map MR.pl) C nw (i + 1) → p1 ≤ 1 + 4 * (i + 1 : Nat) → 0 ≤ nw → S.cap 500 → S.cap 1000 → S.small → les.length ≤ 60 → (∀ e ∈ les, e.rows.length ≤ 400) → (∀ e ∈ les, e.rows.length ≤ 400 ∧ ∀ r ∈ e.rows, r.reg < 4) → (∀ e ∈ les, 0 ≤ e.t) → rows.length ≤ 41 → (∀ r ∈ rows, 0 ≤ r.tm ∧ r.tm ≤ 10 ^ 30) → S.head ≤ S.act.length → wpAny (model prog w) A (execs more env) Q E s') :
    wpAny (model prog w) A (execs (st :: more) env) Q E s := by
  refine seqX (Str.ofString "now") [Str.ofString "region", Str.ofString "delay", Str.ofString "due"] (fun c n => Law9 w Rg P M Cm Qa rest (i + 1) c n) F0 ?_ ?_
  · refine h1 (MEnd h₀ L (JS w Rg P M Cm Qa rest m (i + 1)) s) fun s' m' n' rl' F' N' J' => ?_
    have rr : Rel s s' := ⟨rl'.g.trans rl.g.symm, rl'.d.trans rl.d.symm, rl'.o.trans rl.o.symm⟩
    exact ⟨rfl, s'.heap, s'.toks, m', n', rr.eq, F', N', J'⟩
  · rintro cv u news₁ h tk ⟨σ, T, nw, tn, rfl, rfl, Iσ⟩ F₁ N₁
    refine Iσ.open (by omega) ?_
    intro rt rk Cl p0 p1 t0 t1 pn cells ck ns km rows kc C tc D act ina nba late later ts now tnow head th va ka vi ki vn kn vl kl od les S e G hsim hp1 hnw a1 a2 a3 a4 a5 a6 a7 a8 a9 a10
    subst e
    have hnn : now = nw := G.is.now.trans hsim.hnow
    subst hnn
    exact h2 u { s with heap := h, toks := tk } now tn rt rk Cl p0 p1 t0 t1 pn cells ck ns km rows kc C tc D act ina nba late later ts tnow head th va ka vi ki vn kn vl kl od les S T (rl.upd h tk) F₁ N₁ G hsim hp1 hnw a1 a2 a3 a4 a5 a6 a7 a8 a9 a10
theorem JS.end {C' : Int} {tc' : Tok} {kc' : Nat} {s' : Shared} {nw : Int} {tn : Tok} {i : Nat} (hR : ∀ s' m' n', Rel sb s' → Fr h₀ L s'.heap m' → News h₀ L s'.heap n' → JS w Rg P M Cm Qa rest m i m' n' → R .next s') (G : Good w (⟨Rg, rt, rk, P, Cl, p0, p1, t0, t1, pn, cells, ck, ns, M, km, rows, Cm, kc, C, tc, ⟨Qa, D, act, ina, nba, late, later, ts, now, tnow, head, th, va, ka, vi, ki, vn, kn, vl, kl, od⟩, les, S⟩ : LS) T rest) (hsim : Sim S (plp les) (rows.map MR.pl) C' nw i) (hp1 : p1 ≤ 1 + 4 * i) (hnw : 0 ≤ nw)
    (rl : Rel sb s') (F : Fr h₀ L s'.heap m') (N : News h₀ L s'.heap ((⟨Rg, rt, rk, P, Cl, p0, p1, t0, t1, pn, cells, ck, ns, M, km, rows, Cm, kc', C', tc', ⟨Qa, D, act, ina, nba, late, later, ts, now, tnow, head, th, va, ka, vi, ki, vn, kn, vl, kl, od⟩, les, S⟩ : LS).led w T))
    (hm : ∀ z, z ≠ Str.ofString "now" → [Str.ofString "region", Str.ofString "delay", Str.ofString "due"].contains z = false → m' z = m z) (hnow : m' (Str.ofString "now") = some (.int nw tn)) : RPost R .next s' :=
  hR s' m' _ rl F N ⟨hm, _, hnow, _, _, nw, tn, rfl, rfl, Inv.of (G.cnt C' tc' kc') hsim hp1 hnw⟩
theorem JS.endI {I a : Addr} {oI : Obj} {o : Obj} {s' : Shared} {nw : Int} {tn : Tok} {i : Nat} (hR : ∀ s' m' n', Rel sb s' → Fr h₀ L s'.heap m' → News h₀ L s'.heap n' → JS w Rg P M Cm Qa [(I, oI)] m i m' n' → R .next s') (G : Good w (⟨Rg, rt, rk, P, Cl, p0, p1, t0, t1, pn, cells, ck, ns, M, km, rows, Cm, kc, C, tc, ⟨Qa, D, act, ina, nba, late, later, ts, now, tnow, head, th, va, ka, vi, ki, vn, kn, vl, kl, od⟩, les, S⟩ : LS) T [(a, o), (I, oI)]) (hsim : Sim S (plp les) (rows.map MR.pl) C nw i) (hp1 : p1 ≤ 1 + 4 * i) (hnw : 0 ≤ nw)
    (rl : Rel sb s') (F : Fr h₀ L s'.heap m') (N : News h₀ L s'.heap ((⟨Rg, rt, rk, P, Cl, p0, p1, t0, t1, pn, cells, ck, ns, M, km, rows, Cm, kc, C, tc, ⟨Qa, D, act, ina, nba, late, later, ts, now, tnow, head, th, va, ka, vi, ki, vn, kn, vl, kl, od⟩, les, S⟩ : LS).led w T))
    (hm : ∀ z, z ≠ Str.ofString "now" → [Str.ofString "region", Str.ofString "delay", Str.ofString "due"].contains z = false → m' z = m z) (hnow : m' (Str.ofString "now") = some (.int nw tn)) : RPost R .next s' := by
  obtain ⟨Gq, sq, offq⟩ := G.leave
  exact JS.end hR Gq hsim hp1 hnw rl F (newsSub N (fun p hp => sq p (List.mem_cons_of_mem _ hp))) hm hnow
theorem lawWhile {test : Expr} {pos : Pos} {σ₀ : LS} {T₀ : List (Addr × Obj)} {nw₀ : Int} {tn₀ : Tok} {k₀ : Nat} {b₀ : Int} (I₁ : Inv w Rg P M Cm Qa σ₀ T₀ [] nw₀ k₀ b₀) (hk : k₀ ≤ 41) (hb : b₀ ≤ 1000)
    (F : Fr h₀ L s.heap m) (N : News h₀ L s.heap (σ₀.led w T₀)) (hy : m (Str.ofString "now") = some (.int nw₀ tn₀))
    (turn : ∀ (u : Str → Option Value) (sb : Shared) (nw : Int) (tn : Tok) (rt : Nat → Tok) (rk : Nat) (Cl : Addr) (p0 : Int) (p1 : Int) (t0 : Tok) (t1 : Tok) (pn : Nat) (cells : List Value) (ck : Nat) (ns : List Int) (km : Nat) (rows : List MR) (kc : Nat) (C : Int) (tc : Tok) (D : Addr) (act : Addr) (ina : Addr) (nba : Addr) (late : Addr) (later : Addr) (ts : Nat → Nat) (now : Int) (tnow : Tok) (head : Int) (th : Tok) (va : List Value) (ka : Nat) (vi : List Value) (ki : Nat) (vn : List Value) (kn : Nat) (vl : List Value) (kl : Nat) (od : Obj) (les : List LE) (S : QS) (T : List (Addr × Obj)) (R : Flow → Shared → Prop), (∀ s' m' n2 n', Rel s s' → Fr h₀ L s'.heap m' → News h₀ L s'.heap n2 → n' < meas rows → JW w Rg P M Cm Qa m n' m' n2 → R .next s') → Rel s sb →
      Fr h₀ L sb.heap (fun y => if y = Str.ofString "now" then some (.int nw tn) else if [Str.ofString "due"].contains y then u y else m y) →
      News h₀ L sb.heap ((⟨Rg, rt, rk, P, Cl, p0, p1, t0, t1, pn, cells, ck, ns, M, km, rows, Cm, kc, C, tc, ⟨Qa, D, act, ina, nba, late, later, ts, now, tnow, head, th, va, ka, vi, ki, vn, kn, vl, kl, od⟩, les, S⟩ : LS).led w T) → Good w (⟨Rg, rt, rk, P, Cl, p0, p1, t0, t1, pn, cells, ck, ns, M, km, rows, Cm, kc, C, tc, ⟨Qa, D, act, ina, nba, late, later, ts, now, tnow, head, th, va, ka, vi, ki, vn, kn, vl, kl, od⟩, les, S⟩ : LS) T [] → Sim S (plp les) (rows.map MR.pl) C nw 41 → p1 ≤ 1000 → 0 ≤ nw → S.cap 500 → S.cap 1000 → S.small → les.length ≤ 60 → (∀ e ∈ les, e.rows.length ≤ 400) → (∀ e ∈ les, e.rows.length ≤ 400 ∧ ∀ r ∈ e.rows, r.reg < 4) → (∀ e ∈ les, 0 ≤ e.t) → rows.length ≤ 41 → (∀ r ∈ rows, 0 ≤ r.tm ∧ r.tm ≤ 10 ^ 30) → S.head ≤ S.act.length →
      wpAny (model prog w) A (isTrue test env (eval test env)) (fun b s₂ => if b = true then wpAny (model prog w) A (execs body env) (RPost R) E s₂ else Q .next s₂) E sb)
    (hE : PassesOwn (model prog w) A env E := by passes_own) :
    wpAny (model prog w) A (exec (.While test body [] pos) env) Q E s := by
  refine whileX (Str.ofString "now") [Str.ofString "due"] (fun n c n' => ∃ (σ : LS) (T : List (Addr × Obj)) (nw : Int) (tn : Tok), c = .int nw tn ∧ n' = σ.led w T ∧ Inv w Rg P M Cm Qa σ T [] nw 41 1000 ∧ n = meas σ.rows) F N hy ⟨_, _, _, _, rfl, rfl, ⟨I₁.good, I₁.rg, I₁.p, I₁.m, I₁.cm, I₁.q, I₁.sim.mono hk, Int.le_trans I₁.p1 hb, I₁.now0⟩, rfl⟩ ?_ hE
  rintro n cv u news₁ h tk F₁ N₁ ⟨σ, T, nw, tn, rfl, rfl, Iσ, rfl⟩
  refine Iσ.open (by omega) ?_
  intro rt rk Cl p0 p1 t0 t1 pn cells ck ns km rows kc C tc D act ina nba late later ts now tnow head th va ka vi ki vn kn vl kl od les S e G hsim hp1 hnw a1 a2 a3 a4 a5 a6 a7 a8 a9 a10
  subst e
  refine turn u { s with heap := h, toks := tk } nw tn rt rk Cl p0 p1 t0 t1 pn cells ck ns km rows kc C tc D act ina nba late later ts now tnow head th va ka vi ki vn kn vl kl od les S T (WhileStep h₀ L s (fun n' m' n2 => JW w Rg P M Cm Qa m n' m' n2) (meas rows)) ?_ ((Rel.refl s).upd h tk) F₁ N₁ G hsim hp1 hnw a1 a2 a3 a4 a5 a6 a7 a8 a9 a10
  intro s' m' n2 n' rl F' N' hlt J'
  exact ⟨rfl, s'.heap, s'.toks, m', n2, n', rl.eq, F', N', hlt, J'⟩
theorem JW.end {rows0 : List MR} {s' : Shared} {nw : Int} {tn : Tok} (hR : ∀ s' m' n2 n', Rel sb s' → Fr h₀ L s'.heap m' → News h₀ L s'.heap n2 → n' < meas rows0 → JW w Rg P M Cm Qa m n' m' n2 → R .next s') (G : Good w (⟨Rg, rt, rk, P, Cl, p0, p1, t0, t1, pn, cells, ck, ns, M, km, rows, Cm, kc, C, tc, ⟨Qa, D, act, ina, nba, late, later, ts, now, tnow, head, th, va, ka, vi, ki, vn, kn, vl, kl, od⟩, les, S⟩ : LS) T []) (hsim : Sim S (plp les) (rows.map MR.pl) C nw 41) (hp1 : p1 ≤ 1000) (hnw : 0 ≤ nw)
    (rl : Rel sb s') (F : Fr h₀ L s'.heap m') (N : News h₀ L s'.heap ((⟨Rg, rt, rk, P, Cl, p0, p1, t0, t1, pn, cells, ck, ns, M, km, rows, Cm, kc, C, tc, ⟨Qa, D, act, ina, nba, late, later, ts, now, tnow, head, th, va, ka, vi, ki, vn, kn, vl, kl, od⟩, les, S⟩ : LS).led w T)) (hlt : meas rows < meas rows0)
    (hm : ∀ z, z ≠ Str.ofString "now" → [Str.ofString "due"].contains z = false → m' z = m z) (hnow : m' (Str.ofString "now") = some (.int nw tn)) : RPost R .next s' :=
  hR s' m' _ _ rl F N hlt ⟨hm, _, hnow, _, _, nw, tn, rfl, rfl, Inv.of G hsim hp1 hnw, rfl⟩
end
end Mine
end

noncomputable section
set_option maxHeartbeats 4000000
namespace Mine
local macro_rules | `(tactic| walk_at "call ref") => `(tactic| k_extra "call ref")
local macro_rules | `(tactic| walk_at "subscriptTail") => `(tactic| k_extra "subscriptTail")
local macro_rules | `(tactic| walk_at "compareOp NotEq ref ref") => `(tactic| k_extra "compareOp NotEq ref ref")
local macro_rules | `(tactic| walk_at "no such tree") => `(tactic| skip)
local macro_rules | `(tactic| k_in) => `(tactic| ((rename Fr _ _ _ _ => lFk); (rename Frag.In _ _ => lKk); exact Frag.In.keeps lKk (Fr.keep lFk)))
local macro_rules | `(tactic| k_ne) => `(tactic| ((try dsimp only); first | assumption | (refine Ne.symm ?_; assumption) | (refine neN ?_; (try dsimp only); omega)))
local macro_rules | `(tactic| lcg_sub) => `(tactic| (intro p hp; k_ownIn))
local macro_rules | `(tactic| tb_start) => `(tactic| ((rename Good _ _ _ _ => Gnd); (k_dflt (refine tbE Gnd ?_)); (intro m1 m2 m3 m4 m5 m6 m7 m8 m9 m10 x1 x2 x3 x4 x5 x6 x7 x8 x9 x10 x11 hoff); skip))
local macro_rules | `(tactic| tb_rel) => `(tactic| (refine allLt_not ?_; simp only [LS.led, LS.regs, LS.pool, QC.led, qd, List.cons_append, List.nil_append, AllLt]; assumption))
theorem fin0 : PySem.Challenge.rw_nn0294_01.Holds := by
  k_with_none
  refine hd ?_
  k_go0
  (all_goals try k_fold)
  (rename World => w)
  repeat' ((fail_if_success (with_reducible show wpAny _ _ (subscriptTail _ _ _ _) _ _ _)); first | (k_unfold; (try dsimp only)) | walk1 | (dsimp only; walk1))
  refine kba_turn (value' := PySem.Expr.Name (PySem.Str.ofString "_") ⟨0, 0, 0, 0⟩) (fun _ => rfl) ?_
  k_dflt (refine' kmk_slice_ints ?yF ?yN ?yl ?yp ?yq ?yi ?ym ?yc ?_ ?ys ?yt ?yz)
  case yF => k_asm
  case yN => k_asm
  case yl => kmk_list
  case yp => kmk_part
  case yq => kmk_part
  case yi => l_ints
  case ym => kmk_nums
  case yc => kmk_len
  case ys => with_unfolding_all rfl
  case yt => kmk_pure
  case yz => kmk_size
  intro D' ws' h' F' N' l1 hI' hC' hL'
  repeat' ((fail_if_success (with_reducible show wpAny _ _ (call (Value.ref 91) _) _ _ _)); first | (k_unfold; (try dsimp only)) | walk1 | (dsimp only; walk1))
  (rename News _ _ _ _ => Ni)
  k_dflt (refine' init_stateE Ni (by omega) (by omega) (by omega) (by omega) (by omega) (by omega) (by omega) (by omega) (by omega) (by omega) (by omega) (by assumption) (by assumption) hI' (by rw [hC', List.length_append, List.length_singleton, show Int.toNat 40 = 40 from rfl]; omega) (by rw [hC', show Int.toNat 40 = 40 from rfl]; omega) ?_)
  clear Ni
  intro rt ts N9 G₀ hsim₀
  k_dflt (refine' u_draw G₀ 40 _ (by decide) (by decide) (by decide) (Rel.refl _) (by k_asm) (by k_asm) (by k_asm) (by k_asm) (by k_asm) (by rfl) (by ktr_room) (by ktr_units) ?_)
  intro d9 td9 q0 q1 u0 u1 n9' sb rl00 F9 N9 hd9 hq9 G9
  have I₁ := Inv.of (b := 1) G9 hsim₀ (by omega) (Int.le_refl _)
  clear G9 G₀ hsim₀
  repeat' ((fail_if_success (with_reducible show wpAny _ _ (call (Value.type "range") _) _ _ _)); first | (k_unfold; (try dsimp only)) | walk1 | (dsimp only; walk1))
  k_dflt (refine range1_rows (by k_asm) (by k_asm) ?_)
  intro h8 tk8 t81 u81 v81 hr8 F8 N8 hk8
  repeat' ((fail_if_success (with_reducible show wpAny _ _ (pyIter _) _ _ _)); first | (k_unfold; (try dsimp only)) | walk1 | (dsimp only; walk1))
  (rename Fr _ _ _ _ => Fz)
  (rename News _ _ _ _ => Nz)
  (rename IsRange _ _ _ _ _ _ _ _ => hrz)
  clear hk8 N9 F9 hq9
  clear lifted
  clear lifted
  clear lifted
  clear lifted
  (rename Below _ _ _ _ => zB)
  clear zB
  (rename Top _ _ _ _ _ _ => zT)
  clear zT
  revert Fz Nz hrz
  repeat ((rename _ < _ ∧ _ => zz); clear zz)
  repeat ((rename Fr _ _ _ _ => zz); clear zz)
  repeat ((rename News _ _ _ _ => zz); clear zz)
  intro hrz Fz Nz
  k_dflt (refine' lawFor (n := d9 + 1) I₁ ?zh hrz ?zb ?zz Fz Nz ?zy ?zx ?zt ?zd)
  case zh => rfl
  case zb => push_cast; omega
  case zz => omega
  case zy => rfl
  case zx => decide
  case zt =>
    as_aux_lemma =>
      intro i t u sb I oI nw tn rt rk Cl p0 p1 t0 t1 pn cells ck ns km rows kc C tc D act ina nba late later ts now tnow head th va ka vi ki vn kn vl kl od les S T R hi hR rl0 F₁ N₂ G2 hsim hp1 hnw0 hcap5 hcap hsmall hles hreg hreg4 hpos hrl htmb hhd m1 m2 m3 m4 m5 m6 m7 m8 m9 m10 x1 x2 x3 x4 x5 x6 x7 x8 x9 x10 x11 hoff
      dsimp only [LS.led, LS.regs, LS.pool, QC.led, qd, List.cons_append, List.nil_append] at N₂
      k_with "call ref" =>
        with_reducible show wpAny _ _ (call (Value.ref 91) _) _ _ _
        (rename Good _ _ _ _ => Gz)
        k_dflt (refine' u_draw Gz _ _ (by decide) (by decide) (by omega) (by (rename Rel _ _ => lR); first | exact lR | exact Rel.upd lR _ _) (by k_asm) (by k_asm) (by k_asm) (by k_asm) (by k_asm) (by rfl) (by ktr_room) (by ktr_units) ?_)
        intro d9 td9 q0 q1 u0 u1 n9' s9 rl9 F9 N9 hd9 hq9 G9
        dsimp only [LS.led, LS.regs, LS.pool, QC.led, qd, List.cons_append, List.nil_append] at N9
      k_with "call ref" =>
        with_reducible show wpAny _ _ (call (Value.ref 91) [_, Value.int 5 _]) _ _ _
        (rename Good _ _ _ _ => Gz)
        (rename News _ _ _ _ => Nz)
        k_dflt (refine menu_inE Gz Nz (by tb_rel) ?_)
        intro Tm Nm Gm hmenu
        k_dflt (refine' u_draw Gm _ _ (by decide) (by decide) (by omega) (by (rename Rel _ _ => lR); first | exact lR | exact Rel.upd lR _ _) (by k_asm) (by k_asm) (by k_asm) (by k_asm) (by k_asm) (by rfl) (by ktr_room) (by ktr_units) ?_)
        intro d9 td9 q0 q1 u0 u1 n9' s9 rl9 F9 N9 hd9 hq9 G9
        dsimp only [LS.led, LS.regs, LS.pool, QC.led, qd, List.cons_append, List.nil_append] at N9
        tb_start
      k_with "subscriptTail" =>
        with_reducible show wpAny _ _ (subscriptTail _ _ (Value.ref _) (Value.int _ _)) _ _ _
        k_dflt (refine menu_at (by k_asm) (by (repeat apply List.mem_cons_of_mem); exact hmenu) (by omega) (by decide) (by decide) (by decide) (by decide) (by decide) ?_)
        intro dl tdl hdl0 hdl1
      k_with "subscriptTail" =>
        with_reducible show wpAny _ _ (subscriptTail _ _ (Value.ref _) (Value.int _ _)) _ _ _
        k_dflt (refine reg_at (by k_asm) (by k_mem) (by omega) ?_)
        intro treg
      k_with "call ref" =>
        with_reducible show wpAny _ _ (call (Value.ref 35) _) _ _ _
        (rename Good _ _ _ _ => Gz)
        (rename News _ _ _ _ => Nz)
        simp only [List.push_toArray] at Nz
        k_dflt (refine push_convE Gz Nz (by tb_rel) ?_)
        intro Tp Np Gp
        k_dflt (refine' u_add Gp _ (by omega) _ _ _ hcap (by (rename Rel _ _ => lR); first | exact lR | exact Rel.upd lR _ _) (by k_asm) (by k_asm) (by k_asm) (by k_asm) (by k_asm) (by rfl) (by ktr_room) (by ktr_units) ?_)
        intro D9 act9 ina9 nba9 late9 later9 ts9 now9 tnow9 head9 th9 va9 ka9 vi9 ki9 vn9 kn9 vl9 kl9 od9 s9 rl9 F9 N9 G9
        dsimp only [LS.led, LS.regs, LS.pool, QC.led, qd, List.cons_append, List.nil_append] at N9
        tb_start
      k_with "call ref" =>
        with_reducible show wpAny _ _ (call (Value.ref 42) _) _ _ _
        (rename Good _ _ _ _ => Gz)
        k_dflt (refine' u_add_after Gz _ _ (by omega) _ _ _ _ hcap hles hreg (by (rename Rel _ _ => lR); first | exact lR | exact Rel.upd lR _ _) (by k_asm) (by k_asm) (by k_asm) (by k_asm) (by k_asm) (by rfl) (by ktr_room) (by ktr_units) ?_)
        intro D9 act9 ina9 nba9 late9 later9 ts9 now9 tnow9 head9 th9 va9 ka9 vi9 ki9 vn9 kn9 vl9 kl9 od9 les9 S9 T9 s9 rl9 F9 N9 hins9 G9
        dsimp only [LS.led, LS.regs, LS.pool, QC.led, qd, List.cons_append, List.nil_append] at N9
        tb_start
      k_with "call ref" =>
        with_reducible show wpAny _ _ (call (Value.ref 56) _) _ _ _
        (rename Good _ _ _ _ => Gz)
        k_dflt (refine' u_take Gz hsmall hhd (by (rename Rel _ _ => lR); first | exact lR | exact Rel.upd lR _ _) (by k_asm) (by k_asm) (by k_asm) (by k_asm) (by k_asm) (by rfl) (by ktr_room) (by ktr_units) ?_)
        intro r9 D9 act9 ina9 nba9 late9 later9 ts9 now9 tnow9 head9 th9 va9 ka9 vi9 ki9 vn9 kn9 vl9 kl9 od9 s9 rl9 F9 N9 hv9 G9
        dsimp only [LS.led, LS.regs, LS.pool, QC.led, qd, List.cons_append, List.nil_append] at N9
      k_with "call ref" =>
        with_reducible show wpAny _ _ (call (Value.ref 96) _) _ _ _
        (rename Good _ _ _ _ => Gz)
        k_dflt (refine' u_law_taken Gz (by omega) htmb (by (rename Rel _ _ => lR); first | exact lR | exact Rel.upd lR _ _) (by k_asm) (by k_asm) (by k_asm) (by k_asm) (by k_asm) (by rfl) (by ktr_room) (by ktr_units) ?_ ?_)
        (intro s8 rl8 F8 N8 hf8)
        (have hsim9 := (sim_nonet hsim hf8).2)
        (have hv9 := hv9.no (sim_nonet hsim hf8).1)
        subst hv9
        (dsimp only [LS.led, LS.regs, LS.pool, QC.led, qd, List.cons_append, List.nil_append] at N8)
        rotate_left
        (intro least rs8 pre8 rr8 post8 tt8 T8 s8 rl8 F8 N8 hT8 G8)
        (have hsim9 := (sim_taken hsim hT8).2)
        (k_dflt (refine hv9.one (sim_taken hsim hT8).1 ?_))
        intro tv9 hv9
        subst hv9
        (dsimp only [LS.led, LS.regs, LS.pool, QC.led, qd, List.cons_append, List.nil_append] at N8)
        rotate_left
      k_with "call ref" =>
        with_reducible show wpAny _ _ (call (Value.ref 101) _) _ _ _
        (rename Good _ _ _ _ => Gz)
        k_dflt (refine' u_law_next Gz (by omega) (by (rename Rel _ _ => lR); first | exact lR | exact Rel.upd lR _ _) (by k_asm) (by k_asm) (by k_asm) (by k_asm) (by k_asm) (by rfl) (by ktr_room) (by ktr_units) ?_)
        intro due tdue s7 rl7 F7 N7 hdue
        dsimp only [LS.led, LS.regs, LS.pool, QC.led, qd, List.cons_append, List.nil_append] at N7
      k_with "call ref" =>
        with_reducible show wpAny _ _ (call (Value.ref 63) _) _ _ _
        (rename Good _ _ _ _ => Gz)
        k_dflt (refine' u_next_time hsim hdue Gz hles (by (rename Rel _ _ => lR); first | exact lR | exact Rel.upd lR _ _) (by k_asm) (by k_asm) (by k_asm) (by k_asm) (by k_asm) (by rfl) (by ktr_room) (by ktr_units) ?_ ?_)
        (intro txt s6 rl6 F6 N6 e1 e3)
        subst e1
        (dsimp only [LS.led, LS.regs, LS.pool, QC.led, qd, List.cons_append, List.nil_append] at N6)
        rotate_left
        (intro txt s6 rl6 F6 N6 e1 e3)
        (dsimp only [LS.led, LS.regs, LS.pool, QC.led, qd, List.cons_append, List.nil_append] at N6)
        rotate_left
      k_with "call ref" =>
        with_reducible show wpAny _ _ (call (Value.ref 70) _) _ _ _
        (rename Good _ _ _ _ => Gz)
        k_dflt (refine' u_advance Gz hcap5 hles hpos hreg4 (by (rename Rel _ _ => lR); first | exact lR | exact Rel.upd lR _ _) (by k_asm) (by k_asm) (by k_asm) (by k_asm) (by k_asm) (by rfl) (by ktr_room) (by ktr_units) ?_ ?_)
        (intro s5 rl5 F5 N5 hl5)
        (dsimp only [LS.led, LS.regs, LS.pool, QC.led, qd, List.cons_append, List.nil_append] at N5)
        rotate_left
        (intro pre5 e5 post5 D9 act9 ina9 nba9 late9 later9 ts9 now9 tnow9 head9 th9 va9 ka9 vi9 ki9 vn9 kn9 vl9 kl9 od9 T5 s5 rl5 F5 N5 hl5 hmin5 G5)
        (dsimp only [LS.led, LS.regs, LS.pool, QC.led, qd, List.cons_append, List.nil_append] at N5)
        (try (focus (exfalso; rw [hl5] at e3; simp [plp] at e3; done)))
        rotate_left
        (try (focus (exfalso; exact e3 (by rw [hl5]; rfl))))
      k_with "call ref" =>
        with_reducible show wpAny _ _ (call (Value.ref 108) _) _ _ _
        (rename Good _ _ _ _ => Gz)
        k_dflt (refine' u_law_advanced Gz (by omega) htmb (by (rename Rel _ _ => lR); first | exact lR | exact Rel.upd lR _ _) (by k_asm) (by k_asm) (by k_asm) (by k_asm) (by k_asm) (by rfl) (by ktr_room) (by ktr_units) ?_ ?_)
        (intro s4 rl4 F4 N4 hl4)
        (dsimp only [LS.led, LS.regs, LS.pool, QC.led, qd, List.cons_append, List.nil_append] at N4)
        rotate_left
        (intro step4 rs4 tc4 kc4 T4 s4 rl4 F4 N4 hst4 hs4 hrs4 G4)
        (dsimp only [LS.led, LS.regs, LS.pool, QC.led, qd, List.cons_append, List.nil_append] at N4)
        (try (focus (exfalso; have q := NextIs.unique hdue hst4; omega)))
        rotate_left
        (try (focus (exfalso; rw [hl4] at hdue; rcases hdue with ⟨_, q⟩ | ⟨q, _⟩ <;> first | omega | (cases q; done))))
      k_with "call ref" =>
        with_reducible show wpAny _ _ (call (Value.ref 77) _) _ _ _
        (rename Good _ _ _ _ => Gz)
        k_dflt (refine' u_pending hsim Gz hcap hhd hles hreg (by (rename Rel _ _ => lR); first | exact lR | exact Rel.upd lR _ _) (by k_asm) (by k_asm) (by k_asm) (by k_asm) (by k_asm) (by rfl) (by ktr_room) (by ktr_units) ?_)
        intro tp3 s3 rl3 F3 N3
        dsimp only [LS.led, LS.regs, LS.pool, QC.led, qd, List.cons_append, List.nil_append] at N3
      k_with "call builtin:len" =>
        with_reducible show wpAny _ _ (call (Value.builtin "len") [Value.ref _]) _ _ _
        k_dflt (refine len_list (News.isList (items := (mrefs rows).toArray) (by k_asm) (by k_mem)) (by rw [List.size_toArray, List.length_map]; omega) ?_)
        rw [show (mrefs rows).toArray.size = rows.length by simp]
      repeat' ((fail_if_success (with_reducible show wpAny _ _ (execs (Stmt.If _ _ _ _ :: _) _) _ _ _)); first | (k_unfold; (try dsimp only)) | walk1 | (dsimp only; walk1))
      (rename Fr _ _ _ _ => lF')
      k_dflt (refine' lawSeq i (by omega) Gz (by (rename Rel _ _ => lR); first | exact lR | exact Rel.upd lR _ _) lF' ?w1 ?w2)
      case w2 =>
        clear Gz
        intro u2 sb2 nw2 tn2 rt rk Cl p0 p1 t0 t1 pn cells ck ns km rows kc C tc D act ina nba late later ts tnow head th va ka vi ki vn kn vl kl od les S T2 rl2 F2 N2 G2' hsim hp1 hnw0 hcap5 hcap hsmall hles hreg hreg4 hpos hrl htmb hhd
        dsimp only [LS.led, LS.regs, LS.pool, QC.led, qd, List.cons_append, List.nil_append] at N2
        repeat' ((fail_if_success (with_reducible show RPost _ _ _)); first | ((with_reducible show wpAny _ _ (call (Value.ref _) _) _ _ _); k_extra "call ref") | ((with_reducible show wpAny _ _ (call (Value.builtin "len") _) _ _ _); k_extra "call builtin:len") | ((fail_if_success (with_reducible show wpAny _ _ (call (Value.ref _) _) _ _ _)); first | (k_unfold; (try dsimp only)) | walk1 | (dsimp only; walk1)))
        · exact absurd rfl (by assumption)
        · exact absurd rfl (by assumption)
        ·
          (rename Good _ _ _ _ => Gz)
          (rename News _ _ _ _ => Nz)
          refine JF.end hR Gz hsim hp1 hnw0 (by (rename Rel _ _ => lR); first | exact lR | exact Rel.upd lR _ _) (by k_asm) Nz ?_ rfl
          intro z hx h1 h2
          obtain ⟨n1, n2, n3, n4⟩ := cont4 h2
          simp only [if_neg n4, if_neg h1, cont3_of n2 n3 n4, h2, Bool.false_eq_true, if_false, if_neg n1, if_neg hx]
        · exact absurd rfl (by assumption)
        ·
          (rename Good _ _ _ _ => Gz)
          (rename News _ _ _ _ => Nz)
          refine JF.end hR Gz hsim hp1 hnw0 (by (rename Rel _ _ => lR); first | exact lR | exact Rel.upd lR _ _) (by k_asm) Nz ?_ rfl
          intro z hx h1 h2
          obtain ⟨n1, n2, n3, n4⟩ := cont4 h2
          simp only [if_neg n4, if_neg h1, cont3_of n2 n3 n4, h2, Bool.false_eq_true, if_false, if_neg n1, if_neg hx]
      intro Rq hRq
      repeat' ((fail_if_success (with_reducible show RPost _ _ _)); first | ((with_reducible show wpAny _ _ (call (Value.ref _) _) _ _ _); k_extra "call ref") | ((fail_if_success (with_reducible show wpAny _ _ (call (Value.ref _) _) _ _ _)); first | (k_unfold; (try dsimp only)) | walk1 | (dsimp only; walk1)))
      · (rename Good _ _ _ _ => Gz)
        (rename News _ _ _ _ => Nz)
        refine JS.end (nw := nw) hRq Gz (row_add hsim _ (by omega) _ rfl rfl rfl rfl) (by push_cast; omega) hnw0 (by (rename Rel _ _ => lR); first | exact lR | exact Rel.upd lR _ _) (by k_asm) Nz (by intro z h1 h2; obtain ⟨n1, n2, n3⟩ := cont3 h2; first | rfl | (simp only [if_neg n1, if_neg n2, if_neg n3, if_neg h1])) rfl
      · (rename Good _ _ _ _ => Gz)
        (rename News _ _ _ _ => Nz)
        simp only [List.push_toArray] at Nz
        refine push_convE Gz Nz (by tb_rel) ?_
        intro Tp Np Gp
        refine JS.endI (nw := nw) hRq Gp ?_ (by push_cast; omega) hnw0 (by (rename Rel _ _ => lR); first | exact lR | exact Rel.upd lR _ _) (by k_asm) Np (by intro z h1 h2; obtain ⟨n1, n2, n3⟩ := cont3 h2; first | rfl | (simp only [if_neg n1, if_neg n2, if_neg n3, if_neg h1])) rfl
        rcases hins9 with ⟨i1, i2, i3⟩ | ⟨i1, i2, i3⟩
        · subst i2; subst i3
          first
            | exact absurd i1 (by assumption)
            | (refine row_add hsim (max d9 1) (by omega) _ i1 ?_ rfl rfl
               show (if 1 > (d9 : Int) then (1 : Int) else (d9 : Int)) = _
               split <;> omega)
        · subst i2
          first
            | exact absurd (by assumption) i1
            | exact row_later hsim d9 (by omega) _ dl i1 hdl0 hdl1 i3 rfl rfl rfl rfl
      · (rename Good _ _ _ _ => Gz)
        (rename News _ _ _ _ => Nz)
        simp only [List.push_toArray] at Nz
        refine push_convE Gz Nz (by tb_rel) ?_
        intro Tp Np Gp
        refine JS.endI (nw := nw) hRq Gp ?_ (by push_cast; omega) hnw0 (by (rename Rel _ _ => lR); first | exact lR | exact Rel.upd lR _ _) (by k_asm) Np (by intro z h1 h2; obtain ⟨n1, n2, n3⟩ := cont3 h2; first | rfl | (simp only [if_neg n1, if_neg n2, if_neg n3, if_neg h1])) rfl
        rcases hins9 with ⟨i1, i2, i3⟩ | ⟨i1, i2, i3⟩
        · subst i2; subst i3
          first
            | exact absurd i1 (by assumption)
            | (refine row_add hsim (max d9 1) (by omega) _ i1 ?_ rfl rfl
               show (if 1 > (d9 : Int) then (1 : Int) else (d9 : Int)) = _
               split <;> omega)
        · subst i2
          first
            | exact absurd (by assumption) i1
            | exact row_later hsim d9 (by omega) _ dl i1 hdl0 hdl1 i3 rfl rfl rfl rfl
      · (rename Good _ _ _ _ => Gz)
        (rename News _ _ _ _ => Nz)
        exact JS.end (nw := nw) hRq Gz (hsim9.mono (by omega)) (by push_cast; omega) hnw0 (by (rename Rel _ _ => lR); first | exact lR | exact Rel.upd lR _ _) (by k_asm) Nz (by intro z h1 h2; obtain ⟨n1, n2, n3⟩ := cont3 h2; first | rfl | (simp only [if_neg n1, if_neg n2, if_neg n3, if_neg h1])) rfl
      · exact absurd rfl (by assumption)
      · (rename Good _ _ _ _ => Gz)
        (rename News _ _ _ _ => Nz)
        exact JS.end (nw := nw) hRq Gz (hsim9.mono (by omega)) (by push_cast; omega) hnw0 (by (rename Rel _ _ => lR); first | exact lR | exact Rel.upd lR _ _) (by k_asm) Nz (by intro z h1 h2; obtain ⟨n1, n2, n3⟩ := cont3 h2; first | rfl | (simp only [if_neg n1, if_neg n2, if_neg n3, if_neg h1])) rfl
      · (rename Good _ _ _ _ => Gz)
        (rename News _ _ _ _ => Nz)
        have hmx : nw + (if (0 : Int) > -1 then 0 else -1) = nw := by rw [if_pos (by decide)]; omega
        exact JS.end (nw := nw) hRq Gz (hsim.mono (by omega)) (by push_cast; omega) hnw0 (by (rename Rel _ _ => lR); first | exact lR | exact Rel.upd lR _ _) (by k_asm) Nz (by intro z h1 h2; obtain ⟨n1, n2, n3⟩ := cont3 h2; first | rfl | (simp only [if_neg n1, if_neg n2, if_neg n3, if_neg h1])) (congrArg (fun x => some (Value.int x _)) hmx)
      · exact absurd rfl (by assumption)
      · (rename Good _ _ _ _ => Gz)
        (rename News _ _ _ _ => Nz)
        have hmx : nw + (if 0 > due then 0 else due) = nw + due := by rw [if_neg (by omega)]
        exact JS.end (nw := nw + due) hRq Gz ((row_adv hsim hl5 hmin5 hdue hst4 hrs4).2.2.mono (by omega)) (by push_cast; omega) (by omega) (by (rename Rel _ _ => lR); first | exact lR | exact Rel.upd lR _ _) (by k_asm) Nz (by intro z h1 h2; obtain ⟨n1, n2, n3⟩ := cont3 h2; first | rfl | (simp only [if_neg n1, if_neg n2, if_neg n3, if_neg h1])) (congrArg (fun x => some (Value.int x _)) hmx)
  case zd =>
    as_aux_lemma =>
      w_top on
      intro uz sz nwz tnz σz Tz rlz Iz Fz1 Nz1
      repeat' ((fail_if_success (with_reducible show wpAny _ _ (exec (Stmt.While _ _ _ _) _) _ _ _)); first | (k_unfold; (try dsimp only)) | walk1 | (dsimp only; walk1))
      (rename Fr _ _ _ _ => lFw)
      (rename News _ _ _ _ => lNw)
      k_dflt (refine' lawWhile Iz (by omega) (by push_cast; omega) lFw lNw ?v1 ?v3)
      case v1 => rfl
      clear lFw lNw Iz
      intro u2 sb2 nw2 tn2 rt rk Cl p0 p1 t0 t1 pn cells ck ns km rows kc C tc D act ina nba late later ts now tnow head th va ka vi ki vn kn vl kl od les S T2 R hR rl2 F2 N2 G2' hsim hp1 hnw0 hcap5 hcap hsmall hles hreg hreg4 hpos hrl htmb hhd
      dsimp only [LS.led, LS.regs, LS.pool, QC.led, qd, List.cons_append, List.nil_append] at N2
      k_with "compareOp NotEq ref ref" =>
        with_reducible show wpAny _ _ (compareOp .NotEq (Value.ref _) (Value.ref _)) _ _ _
        k_dflt (refine ne_nil (items := (mrefs rows).toArray) (News.isList (by k_asm) (by k_mem)) (News.isList (by k_asm) (by k_mem)) (by ktr_units) ?_)
        rw [show (mrefs rows).toArray.size = rows.length by simp]
      k_with "call ref" =>
        with_reducible show wpAny _ _ (call (Value.ref 96) _) _ _ _
        (rename Good _ _ _ _ => Gz)
        k_dflt (refine' u_law_taken Gz (by omega) htmb (by (rename Rel _ _ => lR); first | exact lR | exact Rel.upd lR _ _) (by k_asm) (by k_asm) (by k_asm) (by k_asm) (by k_asm) (by rfl) (by ktr_room) (by ktr_units) ?_ ?_)
        (intro s8 rl8 F8 N8 hf8)
        (have hsim9 := (sim_nonet hsim hf8).2)
        (have ht9 := (sim_nonet hsim hf8).1)
        (have e3 := (sim_les_ne hsim hf8 (by assumption)).1)
        (have hf9 := (sim_les_ne hsim hf8 (by assumption)).2)
        (dsimp only [LS.led, LS.regs, LS.pool, QC.led, qd, List.cons_append, List.nil_append] at N8)
        rotate_left
        (intro least rs8 pre8 rr8 post8 tt8 T8 s8 rl8 F8 N8 hT8 G8)
        (have hsim9 := (sim_taken hsim hT8).2)
        (have ht9 := (sim_taken hsim hT8).1)
        (dsimp only [LS.led, LS.regs, LS.pool, QC.led, qd, List.cons_append, List.nil_append] at N8)
        rotate_left
      k_with "call ref" =>
        with_reducible show wpAny _ _ (call (Value.ref 56) _) _ _ _
        (rename Good _ _ _ _ => Gz)
        first
          | (k_dflt (refine' u_take_none ht9 Gz hsmall hhd (by (rename Rel _ _ => lR); first | exact lR | exact Rel.upd lR _ _) (by k_asm) (by k_asm) (by k_asm) (by k_asm) (by k_asm) (by rfl) (by ktr_room) (by ktr_units) ?_))
          | (k_dflt (refine' u_take_some ht9 Gz hsmall hhd (by (rename Rel _ _ => lR); first | exact lR | exact Rel.upd lR _ _) (by k_asm) (by k_asm) (by k_asm) (by k_asm) (by k_asm) (by rfl) (by ktr_room) (by ktr_units) ?_); intro tv9)
        intro D9 act9 ina9 nba9 late9 later9 ts9 now9 tnow9 head9 th9 va9 ka9 vi9 ki9 vn9 kn9 vl9 kl9 od9 s9 rl9 F9 N9 G9
        dsimp only [LS.led, LS.regs, LS.pool, QC.led, qd, List.cons_append, List.nil_append] at N9
        have hsim := hsim9
        k_dflt (refine sim_okE hsim9 (by omega) hnw0 ?_)
        intro hcap5 hcap hsmall hles hreg hreg4 hpos hrl htmb hhd
      repeat' ((fail_if_success (with_reducible show wpAny _ _ (call (Value.ref _) _) _ _ _)); first | (k_unfold; (try dsimp only)) | walk1 | (dsimp only; walk1))
      (rename News _ _ _ _ => Nq)
      have Nq2 := newsSub Nq (fun p hp => List.mem_cons_of_mem _ hp)
      repeat' ((fail_if_success (with_reducible show RPost _ _ _)); first | ((with_reducible show wpAny _ _ (call (Value.ref _) _) _ _ _); k_extra "call ref") | ((with_reducible show wpAny _ _ (call (Value.builtin "len") _) _ _ _); k_extra "call builtin:len") | ((fail_if_success (with_reducible show wpAny _ _ (call (Value.ref _) _) _ _ _)); first | (k_unfold; (try dsimp only)) | walk1 | (dsimp only; walk1)))
      · exact absurd hl4 hf9
      · exact absurd (Gz.is.now.trans (row_adv hsim hl5 hmin5 hdue hst4 hrs4).1) (by assumption)
      · (rename Good _ _ _ _ => Gz)
        (rename News _ _ _ _ => Nz)
        refine JW.end (nw := nw2 + due) hR Gz (row_adv hsim hl5 hmin5 hdue hst4 hrs4).2.2 (by omega) (by have := (row_adv hsim hl5 hmin5 hdue hst4 hrs4).2.1; omega) (by (rename Rel _ _ => lR); first | exact lR | exact Rel.upd lR _ _) (by k_asm) Nz ?_ (by intro z h1 h2; have n1 := cont1 h2; simp only [if_neg n1, if_neg h1, h2, Bool.false_eq_true, if_false]) rfl
        have hfl := (adv_fr hst4 hs4 hrs4).1
        have hlen := (adv_fr hst4 hs4 hrs4).2
        have hf0 : (fr rows).length = 0 := by rw [hf8]; rfl
        unfold meas
        rw [if_neg hfl, if_pos hf0]; omega
      · exact absurd rfl (by assumption)
      · (rename Good _ _ _ _ => Gz)
        (rename News _ _ _ _ => Nz)
        refine JW.end (nw := nw2) hR Gz hsim9 (by omega) hnw0 (by (rename Rel _ _ => lR); first | exact lR | exact Rel.upd lR _ _) (by k_asm) Nz ?_ (by intro z h1 h2; have n1 := cont1 h2; simp only [if_neg n1, if_neg h1, h2, Bool.false_eq_true, if_false]) rfl
        have hlen : (pre8 ++ post8).length + 1 = rows.length := taken_len hT8
        unfold meas
        split <;> split <;> omega
      have hr0 : rows = [] := List.length_eq_zero_iff.mp (by omega)
      subst hr0
      have ht9 := (sim_nonet hsim (rfl : fr [] = [])).1
      have hsim9 := (sim_nonet hsim (rfl : fr [] = [])).2
      have e3 : plp les = [] := sim_les_nil hsim
      (rename News _ _ _ _ => Nq)
      have Nq2 := newsSub Nq (fun p hp => List.mem_cons_of_mem _ hp)
      repeat' (first | ((with_reducible show wpAny _ _ (call (Value.ref _) _) _ _ _); k_extra "call ref") | ((fail_if_success (with_reducible show wpAny _ _ (call (Value.ref _) _) _ _ _)); first | (k_unfold; (try dsimp only)) | walk1 | (dsimp only; walk1)))
      rw [show ((([] : List MR).length : Int) == 0) = true from rfl]
      dsimp only
      k_steps
      have rg := rl3.g.trans (rlz.g.trans rl00.g)
      have ro := rl3.o.trans (rlz.o.trans rl00.o)
      dsimp only at rg ro
      rw [rg, ro]
      k_steps
end Mine
end

theorem PySem.Challenge.cw_nn0294_01_holds : PySem.Challenge.rw_nn0294_01.Holds := by
  exact Mine.fin0
