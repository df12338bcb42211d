import PyProof.Rows.All
import Wide.All
import OpenK.AllK
import Wide.FinOn
import Lean
import PySem.Challenge.RW_rr0054_01
open PySem PySem.W PyProof.Rows PySem.Calls PySem.Spec
set_option Elab.async false
set_option maxRecDepth 100000
set_option maxHeartbeats 4000000
set_option linter.unusedVariables false
namespace Mine
open_top hd for PySem.Challenge.rw_rr0054_01
end Mine
namespace Mine
abbrev PP : Program := PySem.Challenge.rw_rr0054_01.row.prog
noncomputable abbrev KK (w : World) : Frag := hd.heap_39 w.params
abbrev TT (mean : ExcName → Option Value) (mg mb : Str → Option Value) (h : Heap) : Prop := Top hd.view_39 (looseW hd.view_39 []) mean mg mb h
abbrev Led := List (Addr × Obj)
abbrev VV := Value
abbrev AA := Addr
abbrev adrs (l : Led) : List Addr := l.map (·.1)
abbrev isL (h : Heap) (l : Addr) (us : List Value) : Prop := h.IsList l us.toArray

/-- a call of the def at f: what stood (but the objects of mu) stands, and Post holds of what comes back -/
def Claim (lv : Nat) (w : World) (mean : ExcName → Option Value) (mg mb : Str → Option Value) (f : Addr) (vs : List Value) (mu : Led) (Pre : Heap → Prop) (Post : Heap → Value → Heap → Prop) : Prop :=
  ∀ (dp un : Nat) (gd : Option (List Code)) (cn : Str) (cs : Scope) (L a : Addr) (ccd : Value) (cl : List (Str × Addr)) (outer : List Env) (A₀ : Around) (base h₀ : Heap) (m : Str → Option Value) (s : Shared) (Q E : Value → Shared → Prop),
    Below A₀ base outer h₀ → Fr h₀ L s.heap m → (KK w).In h₀ → TT mean mg mb h₀ → News h₀ L s.heap mu → cs.kind = .function → dp + lv < recursionLimit → un + 10 * lv < cLine → Pre (hideAll s.heap (adrs mu)) →
    (∀ r h' tk', (hideAll s.heap (adrs mu)).StaysIn h' → Post (hideAll s.heap (adrs mu)) r h' → Q r { s with heap := h', toks := tk' }) →
    wpAny (model PP w) (ktrTop dp un gd cn cs L a ccd cl outer) (call (.ref f) vs) Q E s

section
variable {w : World} {A₀ A : Around} {s : Shared} {base h₀ : Heap} {outer : List Env} {L : Addr} {m : Str → Option Value} {env : Env} {mu news : Led}
  {R : Result → Shared → Prop} {name qual : Str} {params : Arguments} {body : List Stmt} {scope : Scope} {dV kV doc pm cdv ct oc : Value} {an od : Option Addr} {osl : Array (Option Value)} {f : Addr} {args : Args} {binds : List (Str × Value)}
  {mean : ExcName → Option Value} {mg mb : Str → Option Value} {K : Frag} {p : Program} {loose : List Str} {prog : Program}

theorem enterG (B : Below A₀ base outer h₀) (F : Fr h₀ L s.heap m) (X₀ : K.In h₀) (N : News h₀ L s.heap mu) (T : Top p loose mean mg mb h₀) (hA : A.frames = some (env :: outer)) (hf : env.frame = some L) (hke : env.scope.kind = .function)
    (ho : K.lookup f = some ⟨oc, od, .func (fnOf name qual params body scope dV kV doc pm an cdv ct), osl⟩) (hcd : codeIn K cdv qual = true) (hroom : A.depth < recursionLimit)
    (hbind : BindsTo s (fnOf name qual params body scope dV kV doc pm an cdv ct) args binds) (hloc : ∀ y ∈ binds, scope.names.lookup y.1 = some .local)
    (h : ∀ g L' h₁ tk, g = hideAll s.heap (adrs mu) → Fr g L' h₁ (fun y => binds.reverse.lookup y) → News g L' h₁ mu → Below A base (env :: outer) g → K.In g → Top p loose mean mg mb g → (∀ p ∈ mu, p.1 < L') →
      wpAny (model prog w) (A.deeper (envOf qual scope L' f cdv)) (execs body (envOf qual scope L' f cdv))
        (fun fl s' => R (.ok (.ret (match fl with | .ret v => v | _ => .none))) s')
        (fun e s' => wpAny (model prog w) (A.deeper (envOf qual scope L' f cdv)) (leaving (envOf qual scope L' f cdv) e) (fun _ s'' => R (.error e) s'') (fun e' s'' => R (.error e') s'') s')
        { s with heap := h₁, toks := tk })
    (hco : scope.isCoroutine = false) (hgen : scope.isGenerator = false) (hk : scope.kind = .function)
    (hcell : ∀ x ∈ scope.names, x.2 ≠ .cell) : codeAny (model prog w) A (.call (.ref f) args) R s := by
  obtain ⟨FG, BG, st, _⟩ := groundX (R := R) B F N hA hf hke
  refine codeAny_call_def (fd := fnOf name qual params body scope dV kV doc pm an cdv ct) (body := body) (binds := binds) hroom ((X₀.keeps F.keep) _ _ ho) rfl (T.nolimit.keeps F.keep) (codeRec_of (X₀.keeps F.keep) hcd) rfl hbind hcell hloc (fun h₁ hns hk₁ => ?_) hco hgen hk
  exact h _ s.heap.objs.size h₁ _ rfl ⟨hns, fun b o e => hk₁ b o (of_hideAll _ e), Nat.le_of_eq (hideAll_size _ _)⟩
    (fun p hp => ⟨hk₁ _ _ (N p hp).1, Nat.ne_of_lt (Heap.lt_size (N p hp).1), hideAll_none _ (List.mem_map_of_mem hp)⟩) BG (X₀.keeps st) (T.keeps st) (fun p hp => Heap.lt_size (N p hp).1)

theorem fr_stays {h h' : Heap} (F : Fr h₀ L h m) (k : h.StaysIn h') : Fr h₀ L h' m := by
  obtain ⟨oL, es, ep, hL, hLd, hLk, hLf⟩ := F.ns
  exact ⟨⟨oL, es, ep, k L oL hL, hLd, hLk, hLf⟩, fun b o e => k b o (F.keep b o e), F.above⟩
theorem news_stays {h h' : Heap} (N : News h₀ L h news) (k : h.StaysIn h') : News h₀ L h' news := fun p hp => ⟨k _ _ (N p hp).1, (N p hp).2⟩
theorem news_fresh {h h' : Heap} {l : Addr} {o : Obj} (F : Fr h₀ L h m) (N : News h₀ L h news) (k : h.StaysIn h') (hl : h.objs.size ≤ l) (ho : h'.get? l = some o) : News h₀ L h' ((l, o) :: news) ∧ (∀ p ∈ news, p.1 < l) := by
  refine ⟨fun p hp => ?_, fun p hp => Nat.lt_of_lt_of_le (Heap.lt_size (N p hp).1) hl⟩
  rcases List.mem_cons.mp hp with rfl | hp
  · refine ⟨ho, fun e => ?_, ?_⟩
    · exact absurd F.ns.lt (by rw [← e]; exact Nat.not_lt.mpr hl)
    · show h₀.get? l = none
      cases q : h₀.get? l with
      | none => rfl
      | some o' => exact absurd (Heap.lt_size (F.keep _ _ q)) (Nat.not_lt.mpr hl)
  · exact news_stays N k p hp
/-- a mutated object: the rest stands -/
theorem stays_unhide {h h' : Heap} {as : List Addr} (k : (hideAll h as).StaysIn h') {b : Addr} {o : Obj} (e : h.get? b = some o) (hb : b ∉ as) : h'.get? b = some o := k b o (hideAll_get _ e hb)
theorem fr_mut {h h' : Heap} {d : Addr} {o o' : Obj} {pre post : Led} (F : Fr h₀ L h m) (N : News h₀ L h (pre ++ (d, o) :: post)) (k : (hideAll h [d]).StaysIn h') (hd : h'.get? d = some o') (h1 : ∀ p ∈ pre, p.1 ≠ d) (h2 : ∀ p ∈ post, p.1 ≠ d) :
    Fr h₀ L h' m ∧ News h₀ L h' (pre ++ (d, o') :: post) := by
  have D := N (d, o) (by simp)
  obtain ⟨oL, es, ep, hL, hLd, hLk, hLf⟩ := F.ns
  have gd : ∀ b x, h.get? b = some x → b ≠ d → h'.get? b = some x := fun b x e n => stays_unhide k e (by simpa using n)
  refine ⟨⟨⟨oL, es, ep, gd L oL hL (Ne.symm D.2.1), hLd, hLk, hLf⟩, fun b x e => gd b x (F.keep b x e) (fun q => by rw [q, D.2.2] at e; cases e), F.above⟩, fun p hp => ?_⟩
  rcases List.mem_append.mp hp with q | q
  · have P := N p (List.mem_append_left _ q); exact ⟨gd _ _ P.1 (h1 p q), P.2⟩
  · rcases List.mem_cons.mp q with rfl | q
    · exact ⟨hd, D.2⟩
    · have P := N p (List.mem_append_right _ (.tail _ q)); exact ⟨gd _ _ P.1 (h2 p q), P.2⟩


def FreshL (h : Heap) (r : Value) (h' : Heap) (P : List Int → Prop) : Prop :=
  ∃ l us n ns, r = .ref l ∧ h.get? l = none ∧ h'.get? l = some (listOf (List.toArray us) n) ∧ IntsAre us ns ∧ P ns
theorem freshL_of {g h : Heap} {l : Addr} {us : List Value} {n : Nat} {ns : List Int} {P : List Int → Prop} (N : News g L h news) (hm : (l, listOf us.toArray n) ∈ news) (hI : IntsAre us ns) (hP : P ns) : FreshL g (.ref l) h P :=
  ⟨l, us, n, ns, rfl, (N _ hm).2.2, (N _ hm).1, hI, hP⟩
theorem news_fresh' {h h' : Heap} {l : Addr} {o : Obj} (F : Fr h₀ L h m) (N : News h₀ L h news) (k : h.StaysIn h') (hl : h.get? l = none) (ho : h'.get? l = some o) : News h₀ L h' ((l, o) :: news) ∧ (∀ p ∈ news, p.1 ≠ l) := by
  refine ⟨fun p hp => ?_, fun p hp e => ?_⟩
  · rcases List.mem_cons.mp hp with rfl | hp
    · refine ⟨ho, fun e => ?_, ?_⟩
      · obtain ⟨oL, es, ep, hL, _⟩ := F.ns
        have e : l = L := e
        rw [e, hL] at hl; cases hl
      · show h₀.get? l = none
        cases q : h₀.get? l with
        | none => rfl
        | some o' => have := F.keep _ _ q; rw [hl] at this; cases this
    · exact news_stays N k p hp
  · have := (N p hp).1; rw [e, hl] at this; cases this

theorem use_val {lv dp un : Nat} {gd : Option (List Code)} {cn : Str} {cs : Scope} {a : Addr} {ccd : Value} {cl : List (Str × Addr)} {vs : List Value} {Pre : Heap → Prop} {Post : Heap → Value → Heap → Prop} {Q E : Value → Shared → Prop}
    (C : Claim lv w mean mg mb f vs [] Pre Post) (B : Below A₀ base outer h₀) (F : Fr h₀ L s.heap m) (X : (KK w).In h₀) (T : TT mean mg mb h₀) (N : News h₀ L s.heap news) (hk : cs.kind = .function) (hd : dp + lv < recursionLimit) (hu : un + 10 * lv < cLine) (hp : Pre s.heap)
    (k : ∀ r h' tk', Fr h₀ L h' m → News h₀ L h' news → s.heap.StaysIn h' → Post s.heap r h' → Q r { s with heap := h', toks := tk' }) :
    wpAny (model PP w) (ktrTop dp un gd cn cs L a ccd cl outer) (call (.ref f) vs) Q E s :=
  C dp un gd cn cs L a ccd cl outer A₀ base h₀ m s Q E B F X T News.nil hk hd hu hp fun r h' tk' st po => k r h' tk' (fr_stays F st) (news_stays N st) st po

theorem use_list {lv dp un : Nat} {gd : Option (List Code)} {cn : Str} {cs : Scope} {a : Addr} {ccd : Value} {cl : List (Str × Addr)} {vs : List Value} {Pre : Heap → Prop} {P : List Int → Prop} {Q E : Value → Shared → Prop}
    (C : Claim lv w mean mg mb f vs [] Pre (fun g r h' => FreshL g r h' P)) (B : Below A₀ base outer h₀) (F : Fr h₀ L s.heap m) (X : (KK w).In h₀) (T : TT mean mg mb h₀) (N : News h₀ L s.heap news) (hk : cs.kind = .function) (hd : dp + lv < recursionLimit) (hu : un + 10 * lv < cLine) (hp : Pre s.heap)
    (k : ∀ l us n ns h' tk', Fr h₀ L h' m → News h₀ L h' ((l, listOf (List.toArray us) n) :: news) → (∀ p ∈ news, p.1 ≠ l) → IntsAre us ns → P ns → Q (.ref l) { s with heap := h', toks := tk' }) :
    wpAny (model PP w) (ktrTop dp un gd cn cs L a ccd cl outer) (call (.ref f) vs) Q E s :=
  use_val C B F X T N hk hd hu hp fun r h' tk' F' _ st po => by
    obtain ⟨l, us, n, ns, rfl, hl, ho, hI, hP⟩ := po
    obtain ⟨N', hne⟩ := news_fresh' F N st hl ho
    exact k l us n ns h' tk' F' N' hne hI hP
/-- addresses of a written ledger all differ from l -/
def AllNe (l : Addr) : List (Addr × Obj) → Prop
  | [] => True
  | p :: r => (@Ne Nat p.1 l) ∧ AllNe l r
theorem allNe_of {l : Addr} : ∀ {ns : List (Addr × Obj)}, (∀ p ∈ ns, p.1 ≠ l) → AllNe l ns
  | [], _ => trivial
  | _ :: _, h => ⟨h _ (.head _), allNe_of fun q hq => h q (.tail _ hq)⟩
end
end Mine
local macro_rules | `(tactic| walk_at "M ENTER") => `(tactic| (
  refine wpAny_call ?_;
  k_dflt (refine' Mine.enterG ?k1 ?k2 ?k3 ?k4 ?k5 ?kA ?kF ?kK ?k6 ?k7 ?k8 ?k9 ?kB ?_ ?c2 ?c3 ?c4 ?c5; (case kA => exact rfl); (case kF => exact rfl); (case kK => assumption); (case k1 => k_asm); (case k2 => k_asm); (case k3 => k_asm); (case k4 => k_asm); (case k5 => k_asm); (case k6 => k_is); (case k7 => k_is); (case k8 => ktr_room); (case k9 => exact BindsTo.of_eq rfl); (case c5 => decide); (case kB => exact locs rfl); (case c2 => exact rfl); (case c3 => exact rfl); (case c4 => exact rfl); k_whole)))
local macro_rules | `(tactic| walk_at "M OPEN") => `(tactic| (unfold Mine.Claim; dsimp only [Mine.PP, Mine.KK, Mine.TT, Mine.adrs, Mine.isL]; k_fill))


local macro_rules | `(tactic| walk_at "exec While Compare cons nil") => `(tactic| k_extra "exec While Compare cons nil")
local macro_rules | `(tactic| walk_at "pyIter ref") => `(tactic| k_extra "pyIter ref")
local macro_rules | `(tactic| walk_at "call ref") => `(tactic| k_extra "call ref")
namespace Mine

def NTail (ns : List Int) (e : Int) : Prop := ∀ i : Nat, e ≤ (i : Int) → ns.getD i 0 = 0
theorem ntail_start {ns : List Int} : NTail ns (ns.length : Int) := by
  intro i hi
  rw [List.getD_eq_getElem?_getD, List.getElem?_eq_none (by omega)]; rfl
theorem ntail_step {ns : List Int} {e : Int} (h : NTail ns e) (h0 : 0 < e) (hz : ns.getD (e - 1).toNat 0 = 0) : NTail ns (e - 1) := by
  intro i hi
  by_cases q : e ≤ (i : Int)
  · exact h i q
  · have : i = (e - 1).toNat := by omega
    rw [this]; exact hz
def NormOf (ns r : List Int) : Prop := ∃ k, k ≤ ns.length ∧ r = ns.take k ∧ (∀ x ∈ ns.drop k, x = 0) ∧ (0 < k → ns.getD (k - 1) 0 ≠ 0)

theorem norm_of {ns : List Int} {e : Int} (h0 : 0 ≤ e) (h1 : e ≤ (ns.length : Int)) (h : NTail ns e) (hz : 0 < e → ns.getD (e - 1).toNat 0 ≠ 0) : NormOf ns (ns.take e.toNat) := by
  refine ⟨e.toNat, by omega, rfl, fun x hx => ?_, fun hp => ?_⟩
  · obtain ⟨i, hi, rfl⟩ := List.mem_iff_getElem.mp hx
    rw [List.length_drop] at hi
    have := h (e.toNat + i) (by omega)
    rw [List.getD_eq_getElem?_getD, List.getElem?_eq_getElem (by omega)] at this
    rw [List.getElem_drop]; exact this
  · have e1 : e.toNat - 1 = (e - 1).toNat := by omega
    rw [e1]; exact hz (by omega)
theorem norm_end1 {ns : List Int} {e : Int} (h0 : 0 ≤ e) (h1 : e ≤ (ns.length : Int)) (h : NTail ns e) (_ : 0 < e) (hz : ns.getD (e - 1).toNat 0 ≠ 0) : NormOf ns (ns.take e.toNat) := norm_of h0 h1 h fun _ => hz
theorem norm_end0 {ns : List Int} {e : Int} (h0 : 0 ≤ e) (h1 : e ≤ (ns.length : Int)) (h : NTail ns e) (hn : ¬ 0 < e) : NormOf ns (ns.take e.toNat) := norm_of h0 h1 h fun q => absurd q hn

/-- the two agree at every place but the lowest ones: n have been looked at from the top -/
def CEq (ns ms : List Int) (n : Nat) : Prop := ns.length = ms.length ∧ ∀ j : Nat, ns.length ≤ j + n → ns.getD j 0 = ms.getD j 0
def CmpOf (ns ms : List Int) (c : Int) : Prop :=
  (ns.length < ms.length ∧ c = -1) ∨ (ms.length < ns.length ∧ c = 1) ∨ (ns.length = ms.length ∧
    ((c = 0 ∧ ns = ms) ∨ ∃ k : Nat, k < ns.length ∧ (∀ j, k < j → ns.getD j 0 = ms.getD j 0) ∧ ((ns.getD k 0 < ms.getD k 0 ∧ c = -1) ∨ (ms.getD k 0 < ns.getD k 0 ∧ c = 1))))
theorem ceq_start {ns ms : List Int} (h : ns.length = ms.length) : CEq ns ms ([] : List Int).length := ⟨h, fun j hj => by
  have hj : ns.length ≤ j := by simpa using hj
  rw [List.getD_eq_getElem?_getD, List.getD_eq_getElem?_getD, List.getElem?_eq_none hj, List.getElem?_eq_none (by omega)]⟩
theorem bitAnd1 (x : Int) : Builtin.bitAnd x 1 = x % 2 := by
  unfold Builtin.bitAnd
  by_cases h : 0 ≤ x
  · simp only [h, decide_true, show (decide ((0 : Int) ≤ 1)) = true from rfl]
    rw [show (1 : Int).toNat = 1 from rfl, Nat.and_one_is_mod]
    omega
  · simp only [h, decide_false, show (decide ((0 : Int) ≤ 1)) = true from rfl]
    unfold Builtin.bitNot
    rw [show (1 : Int).toNat = 1 from rfl, Nat.and_comm, Nat.and_one_is_mod]
    omega
theorem even_a {ns : List Int} (h0 : (ns.length : Int) = 0) : ((ns.length : Int) == 0) = (ns.length == 0 || ns.getD 0 0 % 2 == 0) := by
  have : ns.length = 0 := by omega
  simp [this]
theorem even_b {ns : List Int} (h0 : (ns.length : Int) ≠ 0) : (Builtin.bitAnd (ns.getD (Int.toNat 0) 0) 1 == 0) = (ns.length == 0 || ns.getD 0 0 % 2 == 0) := by
  have e : (ns.length == 0) = false := by rw [beq_eq_false_iff_ne]; omega
  rw [bitAnd1, e, Bool.false_or]; rfl
theorem c_even {w : World} {mean : ExcName → Option Value} {mg mb : Str → Option Value} {l : Addr} {us : List Value} {ns : List Int} (hI : IntsAre us ns) (hlen : ns.length < 2 ^ 20) :
    Claim 2 w mean mg mb 53 [.ref l] [] (fun g => isL g l us) (fun g r h' => r = .bool (ns.length == 0 || ns.getD 0 0 % 2 == 0)) := by
  k_with_none
  w_top off
  walk_at "M OPEN"
  intro dp un gd cn cs L a ccd cl outer A₀ base h₀ m s Q E B F X T N hk hd hu hp hret
  walk_at "M ENTER"
  intro g L' h₁ tk hg F' N' B' X' T' hlt
  have hp1 : g.IsList l us.toArray := by rw [hg]; exact hp
  rw [← hg] at hret
  clear hlt F X N B T hp
  try dsimp only
  k_steps
  all_goals refine hret _ _ _ (Fr.keep (by assumption)) ?_
  · rename (_ = (0 : Int)) => h0
    exact congrArg Value.bool (even_a h0)
  · rename (_ ≠ (0 : Int)) => h0
    exact congrArg Value.bool (even_b h0)

theorem c_normal {w : World} {mean : ExcName → Option Value} {mg mb : Str → Option Value} {l : Addr} {us : List Value} {ns : List Int} (hI : IntsAre us ns) (hlen : ns.length < 2 ^ 20) :
    Claim 2 w mean mg mb 46 [.ref l] [] (fun g => isL g l us) (fun g r h' => FreshL g r h' (NormOf ns)) := by
  k_with_none
  w_top off
  walk_at "M OPEN"
  intro dp un gd cn cs L a ccd cl outer A₀ base h₀ m s Q E B F X T N hk hd hu hp hret
  walk_at "M ENTER"
  intro g L' h₁ tk hg F' N' B' X' T' hlt
  have hp1 : g.IsList l us.toArray := by rw [hg]; exact hp
  rw [← hg] at hret
  clear hlt F X N B T hp
  try dsimp only
  k_with "exec While BoolOp cons nil" => k_while (fun _ e => 0 ≤ e ∧ e ≤ (ns.length : Int) ∧ NTail ns e) (fun _ e => e.toNat) "end"
  k_with "state" => k_dflt ((refine ⟨by omega, by omega, ?_⟩; first | exact ntail_start | exact ntail_step (by assumption) (by assumption) (by assumption)))
  k_steps
  all_goals refine hret _ _ _ (Fr.keep (by assumption)) (freshL_of (by assumption) (.head _) (by assumption) ?_)
  · exact norm_end1 (by assumption) (by assumption) (by assumption) (by assumption) (by assumption)
  · exact norm_end0 (by assumption) (by assumption) (by assumption) (by assumption)

end Mine
namespace Mine
/-- the number that limbs of base b say, the lowest first -/
def val (b : Int) : List Int → Int
  | [] => 0
  | x :: r => x + b * val b r
def Rng (b : Int) (ns : List Int) : Prop := ∀ x ∈ ns, 0 ≤ x ∧ x < b
/-- no limb of nought on top -/
def Canon (ns : List Int) : Prop := 0 < ns.length → ns.getD (ns.length - 1) 0 ≠ 0

theorem getD_of {ns : List Int} {n : Nat} (h : n < ns.length) : ns.getD n 0 = ns[n] := by
  rw [List.getD_eq_getElem?_getD, List.getElem?_eq_getElem h]; rfl
theorem getD_out {ns : List Int} {n : Nat} (h : ns.length ≤ n) : ns.getD n 0 = 0 := by
  rw [List.getD_eq_getElem?_getD, List.getElem?_eq_none h]; rfl
theorem val_append (b : Int) (f g : List Int) : val b (f ++ g) = val b f + b ^ f.length * val b g := by
  induction f with
  | nil => simp [val]
  | cons x r ih => simp only [List.cons_append, val, ih, List.length_cons, Int.pow_succ]; grind
theorem val_one (b x : Int) : val b [x] = x := by simp [val]
theorem val_take_succ (b : Int) (ns : List Int) (n : Nat) : val b (ns.take (n + 1)) = val b (ns.take n) + ns.getD n 0 * b ^ n := by
  by_cases h : n < ns.length
  · have e : ns.take (n + 1) = ns.take n ++ [ns.getD n 0] := by
      rw [List.take_add_one, List.getElem?_eq_getElem h, getD_of h]; rfl
    rw [e, val_append, val_one, List.length_take, Nat.min_eq_left (Nat.le_of_lt h)]; grind
  · have h' : ns.length ≤ n := Nat.le_of_not_lt h
    rw [getD_out h', List.take_of_length_le h', List.take_of_length_le (by omega)]; simp
theorem Rng.append {b : Int} {f g : List Int} (h : Rng b f) (k : Rng b g) : Rng b (f ++ g) := fun x hx => (List.mem_append.mp hx).elim (h x) (k x)
theorem Rng.one {b x : Int} (h : 0 ≤ x) (k : x < b) : Rng b [x] := fun y hy => by
  rw [List.mem_singleton.mp hy]; exact ⟨h, k⟩
theorem Rng.take {b : Int} {f : List Int} (h : Rng b f) (n : Nat) : Rng b (f.take n) := fun x hx => h x (List.mem_of_mem_take hx)
theorem Rng.drop {b : Int} {f : List Int} (h : Rng b f) (n : Nat) : Rng b (f.drop n) := fun x hx => h x (List.mem_of_mem_drop hx)
theorem Rng.getD {b : Int} {f : List Int} (h : Rng b f) (hb : 0 < b) (n : Nat) : 0 ≤ f.getD n 0 ∧ f.getD n 0 < b := by
  by_cases q : n < f.length
  · rw [getD_of q]; exact h _ (List.getElem_mem q)
  · rw [getD_out (Nat.le_of_not_lt q)]; exact ⟨Int.le_refl _, hb⟩
theorem val_nonneg {b : Int} (hb : 0 < b) {ns : List Int} (h : Rng b ns) : 0 ≤ val b ns := by
  induction ns with
  | nil => exact Int.le_refl _
  | cons x r ih =>
    have h1 := ih fun y hy => h y (.tail _ hy)
    have h2 := (h x (.head _)).1
    have h3 := Int.mul_nonneg (Int.le_of_lt hb) h1
    show 0 ≤ x + b * val b r
    omega
theorem val_lt {b : Int} (hb : 0 < b) {ns : List Int} (h : Rng b ns) : val b ns < b ^ ns.length := by
  induction ns with
  | nil => simp [val]
  | cons x r ih =>
    have h1 := ih fun y hy => h y (.tail _ hy)
    have h2 := (h x (.head _)).2
    have h3 : b * (val b r + 1) ≤ b * b ^ r.length := Int.mul_le_mul_of_nonneg_left h1 (Int.le_of_lt hb)
    rw [Int.mul_add] at h3
    show x + b * val b r < b ^ (r.length + 1)
    rw [Int.pow_succ, Int.mul_comm (b ^ r.length)]
    omega
theorem val_zero {b : Int} {ns : List Int} (h : ∀ x ∈ ns, x = 0) : val b ns = 0 := by
  induction ns with
  | nil => rfl
  | cons x r ih =>
    show x + b * val b r = 0
    rw [ih fun y hy => h y (.tail _ hy), h x (.head _)]; simp
theorem val_split (b : Int) (ns : List Int) (n : Nat) (h : n ≤ ns.length) : val b ns = val b (ns.take n) + b ^ n * val b (ns.drop n) := by
  conv => lhs; rw [← List.take_append_drop n ns, val_append, List.length_take, Nat.min_eq_left h]
theorem pow_pos' {b : Int} (hb : 0 < b) (n : Nat) : 0 < b ^ n := Int.pow_pos hb
theorem val_ge {b : Int} (hb : 0 < b) {ns : List Int} (h : Rng b ns) (k : Nat) (hk : k < ns.length) (hz : ns.getD k 0 ≠ 0) : b ^ k ≤ val b ns := by
  rw [val_split b ns (k + 1) hk, val_take_succ]
  have h1 := val_nonneg hb (h.take k)
  have h2 := Int.mul_nonneg (Int.le_of_lt (pow_pos' hb (k + 1))) (val_nonneg hb (h.drop (k + 1)))
  have h3 := (h.getD hb k).1
  have h4 : 1 * b ^ k ≤ ns.getD k 0 * b ^ k := Int.mul_le_mul_of_nonneg_right (by omega) (Int.le_of_lt (pow_pos' hb k))
  omega
theorem normOf_val {b : Int} {ns r : List Int} (h : NormOf ns r) : val b r = val b ns := by
  obtain ⟨k, hk, rfl, hz, _⟩ := h
  rw [val_split b ns k hk, val_zero hz]; simp
theorem normOf_rng {b : Int} {ns r : List Int} (h : NormOf ns r) (k : Rng b ns) : Rng b r := by
  obtain ⟨n, _, rfl, _⟩ := h
  exact k.take n
theorem normOf_canon {ns r : List Int} (h : NormOf ns r) : Canon r := by
  obtain ⟨k, hk, rfl, _, hn⟩ := h
  intro hp
  rw [List.length_take, Nat.min_eq_left hk] at hp ⊢
  have := hn hp
  rw [List.getD_eq_getElem?_getD, List.getElem?_take_of_lt (by omega), ← List.getD_eq_getElem?_getD]
  exact this
theorem normOf_len {ns r : List Int} (h : NormOf ns r) : r.length ≤ ns.length := by
  obtain ⟨k, hk, rfl, _⟩ := h
  rw [List.length_take]; omega
/-- two rows that agree above k -/
theorem val_top {b : Int} (hb : 0 < b) {ns ms : List Int} (h : Rng b ns) (h2 : Rng b ms) (hl : ns.length = ms.length) {k : Nat} (hk : k < ns.length) (he : ∀ j, k < j → ns.getD j 0 = ms.getD j 0) (hlt : ns.getD k 0 < ms.getD k 0) : val b ns < val b ms := by
  have ed : ns.drop (k + 1) = ms.drop (k + 1) := by
    refine List.ext_getElem (by rw [List.length_drop, List.length_drop, hl]) fun i h1 h2 => ?_
    rw [List.length_drop] at h1 h2
    rw [List.getElem_drop, List.getElem_drop, ← getD_of, ← getD_of]
    exact he _ (by omega)
  rw [val_split b ns (k + 1) hk, val_split b ms (k + 1) (by omega), val_take_succ, val_take_succ, ed]
  have h3 := val_lt hb (h.take k)
  rw [List.length_take, Nat.min_eq_left (Nat.le_of_lt hk)] at h3
  have h4 := val_nonneg hb (h2.take k)
  have h5 : (ns.getD k 0 + 1) * b ^ k ≤ ms.getD k 0 * b ^ k := Int.mul_le_mul_of_nonneg_right (by omega) (Int.le_of_lt (pow_pos' hb k))
  rw [Int.add_mul, Int.one_mul] at h5
  omega
theorem val_len {b : Int} (hb : 1 < b) {ns ms : List Int} (h : Rng b ns) (h2 : Rng b ms) (c2 : Canon ms) (hl : ns.length < ms.length) : val b ns < val b ms := by
  have h1 := val_lt (by omega) h
  have h3 := val_ge (by omega) h2 (ms.length - 1) (by omega) (c2 (by omega))
  have h4 : b ^ ns.length ≤ b ^ (ms.length - 1) := by
    obtain ⟨d, hd⟩ := Nat.exists_eq_add_of_le (show ns.length ≤ ms.length - 1 by omega)
    rw [hd, Int.pow_add]
    have := pow_pos' (show 0 < b by omega) d
    have h5 : b ^ ns.length * 1 ≤ b ^ ns.length * b ^ d := Int.mul_le_mul_of_nonneg_left (by omega) (Int.le_of_lt (pow_pos' (by omega) _))
    omega
  omega
theorem val_inj {b : Int} (hb : 1 < b) : ∀ {ns ms : List Int}, Rng b ns → Rng b ms → ns.length = ms.length → val b ns = val b ms → ns = ms
  | [], [], _, _, _, _ => rfl
  | x :: r, y :: t, h, h2, hl, e => by
    have hx := h x (.head _)
    have hy := h2 y (.head _)
    have e' : x + b * val b r = y + b * val b t := e
    have ex : x = y := by
      have h1 : (x + b * val b r) % b = x := by rw [Int.add_mul_emod_self_left, Int.emod_eq_of_lt hx.1 hx.2]
      have h3 : (y + b * val b t) % b = y := by rw [Int.add_mul_emod_self_left, Int.emod_eq_of_lt hy.1 hy.2]
      rw [← h1, e', h3]
    subst ex
    have e2 : val b r = val b t := Int.eq_of_mul_eq_mul_left (show b ≠ 0 by omega) (by omega)
    rw [val_inj hb (fun z hz => h z (.tail _ hz)) (fun z hz => h2 z (.tail _ hz)) (by simpa using hl) e2]
  | [], _ :: _, _, _, hl, _ => by simp at hl
  | _ :: _, [], _, _, hl, _ => by simp at hl
theorem val_uniq {b : Int} (hb : 1 < b) {ns ms : List Int} (h : Rng b ns) (h2 : Rng b ms) (c : Canon ns) (c2 : Canon ms) (e : val b ns = val b ms) : ns = ms := by
  rcases Nat.lt_trichotomy ns.length ms.length with q | q | q
  · have := val_len hb h h2 c2 q; omega
  · exact val_inj hb h h2 q e
  · have := val_len hb h2 h c q; omega
end Mine
namespace Mine
theorem ceq_step {ns ms : List Int} {pre : List Int} {k : Int} (h : CEq ns ms pre.length) (hk : k = (ns.length : Int) - 1 - (pre.length : Int)) (hlt : pre.length < ((ns.length : Int) - 1 - -1).toNat) (he : ns.getD k.toNat 0 = ms.getD k.toNat 0) : CEq ns ms (pre ++ [k]).length := by
  refine ⟨h.1, fun j hj => ?_⟩
  rw [List.length_append, List.length_singleton] at hj
  by_cases q : ns.length ≤ j + pre.length
  · exact h.2 j q
  · have : j = k.toNat := by omega
    rw [this]; exact he
theorem cmp_lt {ns ms : List Int} {pre : List Int} {k : Int} (h : CEq ns ms pre.length) (hk : k = (ns.length : Int) - 1 - (pre.length : Int)) (hlt : pre.length < ((ns.length : Int) - 1 - -1).toNat) (hl : ns.getD k.toNat 0 < ms.getD k.toNat 0) : CmpOf ns ms (-1) :=
  .inr (.inr ⟨h.1, .inr ⟨k.toNat, by omega, fun j hj => h.2 j (by omega), .inl ⟨hl, rfl⟩⟩⟩)
theorem cmp_gt {ns ms : List Int} {pre : List Int} {k : Int} (h : CEq ns ms pre.length) (hk : k = (ns.length : Int) - 1 - (pre.length : Int)) (hlt : pre.length < ((ns.length : Int) - 1 - -1).toNat) (hn : ns.getD k.toNat 0 ≠ ms.getD k.toNat 0) (hl : ¬ ns.getD k.toNat 0 < ms.getD k.toNat 0) : CmpOf ns ms 1 :=
  .inr (.inr ⟨h.1, .inr ⟨k.toNat, by omega, fun j hj => h.2 j (by omega), .inr ⟨by omega, rfl⟩⟩⟩)
theorem cmp_eq {ns ms : List Int} (h : CEq ns ms (downKs ((ns.length : Int) - 1) ((ns.length : Int) - 1 - -1).toNat).length) : CmpOf ns ms 0 := by
  rw [downKs_length] at h
  refine .inr (.inr ⟨h.1, .inl ⟨rfl, List.ext_getElem h.1 fun i h1 h2 => ?_⟩⟩)
  have := h.2 i (by omega)
  rwa [List.getD_eq_getElem?_getD, List.getD_eq_getElem?_getD, List.getElem?_eq_getElem h1, List.getElem?_eq_getElem h2] at this
theorem c_compare {w : World} {mean : ExcName → Option Value} {mg mb : Str → Option Value} {l l2 : Addr} {us us2 : List Value} {ns ms : List Int} (hI : IntsAre us ns) (hI2 : IntsAre us2 ms) (hlen : ns.length < 2 ^ 20) (hlen2 : ms.length < 2 ^ 20) :
    Claim 2 w mean mg mb 60 [.ref l, .ref l2] [] (fun g => isL g l us ∧ isL g l2 us2) (fun g r h' => ∃ c t, r = .int c t ∧ CmpOf ns ms c) := by
  k_with_none
  w_top off
  walk_at "M OPEN"
  intro dp un gd cn cs L a ccd cl outer A₀ base h₀ m s Q E B F X T N hk hd hu hp hret
  walk_at "M ENTER"
  intro g L' h₁ tk hg F' N' B' X' T' hlt
  have hp1 : g.IsList l us.toArray := by rw [hg]; exact hp.1
  have hp2 : g.IsList l2 us2.toArray := by rw [hg]; exact hp.2
  rw [← hg] at hret
  clear hlt F X N B T hp
  try dsimp only
  k_with "pyIter ref" =>
    rename Fr _ _ _ _ => lF'
    rename News _ _ _ _ => lN'
    rename IsRange _ _ _ _ _ _ _ _ => rgX
    with_unfolding_all refine' kst_rangeD (fun (_ : Unit) => []) (fun _ => []) (fun _ => True) [] (fun pre _ => CEq ns ms pre.length) () (by rfl) rgX (small_down (by omega) (by omega) (by omega) (by omega)) (rangeSize_downNat _ _) lF' lN' True.intro (List.forall_mem_nil _) (ceq_start (by omega)) ?_ ?_
    all_goals (try clear lF' lN')
    all_goals (first | (intro c pre k t u h tk own hk hlt hoff hf hce kFr kNews) | (intro c u h tk hf hce kFr kNews))
    all_goals ((try dsimp only [kstB] at kFr); (try dsimp only at kNews); (try simp only [List.nil_append] at kNews); (try k_fold))
  k_with "state" => k_dflt (exact ceq_step (by assumption) (by assumption) (by assumption) (by assumption))
  k_steps
  all_goals (first | refine hret _ _ _ (Fr.keep (by assumption)) ⟨_, _, rfl, ?_⟩ | skip)
  · exact .inl ⟨by omega, rfl⟩
  · exact .inr (.inl ⟨by omega, rfl⟩)
  · exact cmp_lt hce hk hlt (by assumption)
  · exact cmp_gt hce hk hlt (by assumption) (by assumption)
  · exact cmp_eq hce
end Mine
namespace Mine
theorem cmpOf_val {b c : Int} (hb : 1 < b) {ns ms : List Int} (h : Rng b ns) (h2 : Rng b ms) (k : Canon ns) (k2 : Canon ms) (hc : CmpOf ns ms c) : (c < 0 ∧ val b ns < val b ms) ∨ (c = 0 ∧ ns = ms) ∨ (0 < c ∧ val b ms < val b ns) := by
  rcases hc with ⟨q, rfl⟩ | ⟨q, rfl⟩ | ⟨q, ⟨rfl, e⟩ | ⟨i, hi, he, ⟨hl, rfl⟩ | ⟨hl, rfl⟩⟩⟩
  · exact .inl ⟨by decide, val_len hb h h2 k2 q⟩
  · exact .inr (.inr ⟨by decide, val_len hb h2 h k q⟩)
  · exact .inr (.inl ⟨rfl, e⟩)
  · exact .inl ⟨by decide, val_top (by omega) h h2 q hi he hl⟩
  · exact .inr (.inr ⟨by decide, val_top (by omega) h2 h q.symm (by omega) (fun j hj => (he j hj).symm) hl⟩)
/-- n limbs of ns less ms are reckoned -/
def SInv (b : Int) (ns ms : List Int) (n : Nat) (found : List Int) (borrow : Int) : Prop :=
  Rng b found ∧ val b found = val b (ns.take n) - val b (ms.take n) + borrow * b ^ n
theorem sinv_start {b : Int} {ns ms : List Int} : SInv b ns ms ([] : List Int).length [] 0 := ⟨fun _ h => (nomatch h), by simp [val]⟩
theorem sinv_step {b : Int} (hb : 1 < b) {ns ms f : List Int} {n : Nat} {br x br' y : Int} (h : SInv b ns ms n f br) (hf : f.length = n) (h0 : 0 ≤ br) (h1 : br ≤ 1) (hr : Rng b ns) (hr2 : Rng b ms)
    (hx : x = ns.getD n 0 - br - ms.getD n 0) (hy : (x < 0 ∧ br' = 1 ∧ y = x + 1 * b) ∨ (¬ x < 0 ∧ br' = 0 ∧ y = x)) : SInv b ns ms (n + 1) (f ++ [y]) br' := by
  have g1 := hr.getD (by omega) n
  have g2 := hr2.getD (by omega) n
  refine ⟨h.1.append (Rng.one ?_ ?_), ?_⟩
  · omega
  · omega
  · rw [val_append, val_one, hf, val_take_succ, val_take_succ, h.2, Int.pow_succ]
    have e : y = ns.getD n 0 - br - ms.getD n 0 + br' * b := by
      rcases hy with ⟨_, rfl, rfl⟩ | ⟨_, rfl, rfl⟩ <;> omega
    rw [e]; grind
def SubOf (b : Int) (ns ms r : List Int) : Prop := ∃ f br, NormOf f r ∧ f.length = ns.length ∧ 0 ≤ br ∧ br ≤ 1 ∧ SInv b ns ms ns.length f br
theorem sub_turn {b : Int} (hb : 1 < b) {ns ms f pre : List Int} {k br x br' y d : Int} (hr : Rng b ns) (hr2 : Rng b ms) (hk : k = 0 + (pre.length : Int)) (h0 : 0 ≤ br) (h1 : br ≤ 1) (hf : f.length = pre.length) (h : SInv b ns ms pre.length f br)
    (hd : d = ms.getD k.toNat 0) (hx : x = ns.getD k.toNat 0 - br - d) (hy : (x < 0 ∧ br' = 1 ∧ y = x + 1 * b) ∨ (¬ x < 0 ∧ br' = 0 ∧ y = x)) :
    (f ++ [y]).length = (pre ++ [k]).length ∧ 0 ≤ br' ∧ br' ≤ 1 ∧ SInv b ns ms (pre ++ [k]).length (f ++ [y]) br' := by
  have ek : k.toNat = pre.length := by omega
  subst hd
  rw [ek] at hx
  refine ⟨by simp [hf], ?_, ?_, ?_⟩
  · rcases hy with ⟨_, rfl, _⟩ | ⟨_, rfl, _⟩ <;> omega
  · rcases hy with ⟨_, rfl, _⟩ | ⟨_, rfl, _⟩ <;> omega
  · rw [List.length_append, List.length_singleton]
    exact sinv_step hb h hf h0 h1 hr hr2 hx hy
theorem pow_gt1 {wd : Int} (hw : 2 ≤ wd) : (1 : Int) < 2 ^ wd.toNat := by
  obtain ⟨k, hk⟩ := Nat.exists_eq_add_of_le (show 1 ≤ wd.toNat by omega)
  rw [hk, Int.pow_add]
  have := Int.pow_pos (n := 2) (m := k) (by decide)
  simp only [Int.pow_one] 
  omega
theorem sub_end {b br : Int} {ns ms f r : List Int} (h : NormOf f r) (hf : f.length = (rangeKs 0 ((ns.length : Int) - 0).toNat).length) (h0 : 0 ≤ br) (h1 : br ≤ 1) (hS : SInv b ns ms (rangeKs 0 ((ns.length : Int) - 0).toNat).length f br) : SubOf b ns ms r := by
  have e : (rangeKs 0 ((ns.length : Int) - 0).toNat).length = ns.length := by rw [rangeKs_length]; omega
  rw [e] at hf hS
  exact ⟨f, br, h, hf, h0, h1, hS⟩
/-- what the difference is, where the second is not above the first -/
theorem subOf_val {b : Int} (hb : 1 < b) {ns ms r : List Int} (hr : Rng b ns) (hr2 : Rng b ms) (hle : val b ms ≤ val b ns) (hl : ms.length ≤ ns.length) (h : SubOf b ns ms r) : Rng b r ∧ Canon r ∧ val b r = val b ns - val b ms ∧ r.length ≤ ns.length := by
  obtain ⟨f, br, hn, hf, h0, h1, hg, hv⟩ := h
  rw [List.take_of_length_le (Nat.le_refl _), List.take_of_length_le hl] at hv
  have hv2 := val_lt (show 0 < b by omega) hg
  have hv3 := val_nonneg (show 0 < b by omega) hr2
  rw [hf] at hv2
  have hbr : br = 0 := by
    rcases (show br = 0 ∨ br = 1 by omega) with q | q
    · exact q
    · rw [q, Int.one_mul] at hv; omega
  rw [hbr, Int.zero_mul, Int.add_zero] at hv
  exact ⟨normOf_rng hn hg, normOf_canon hn, (normOf_val hn).trans hv, hf ▸ normOf_len hn⟩
theorem c_sub {w : World} {mean : ExcName → Option Value} {mg mb : Str → Option Value} {l l2 : Addr} {us us2 : List Value} {ns ms : List Int} {wd : Int} {tw : Tok} (hI : IntsAre us ns) (hI2 : IntsAre us2 ms) (hlen : ns.length < 2 ^ 19) (hlen2 : ms.length < 2 ^ 19)
    (hw : 2 ≤ wd) (hw' : wd ≤ 9) (hr : Rng (2 ^ wd.toNat) ns) (hr2 : Rng (2 ^ wd.toNat) ms) (hc : ∀ c, CmpOf ns ms c → 0 ≤ c) :
    Claim 3 w mean mg mb 67 [.ref l, .ref l2, .int wd tw] [] (fun g => isL g l us ∧ isL g l2 us2) (fun g r h' => FreshL g r h' (SubOf (2 ^ wd.toNat) ns ms)) := by
  k_with_none
  w_top off
  walk_at "M OPEN"
  intro dp un gd cn cs L a ccd cl outer A₀ base h₀ m s Q E B F X T N hk hd hu hp hret
  walk_at "M ENTER"
  intro g L' h₁ tk hg F' N' B' X' T' hlt
  have hp1 : g.IsList l us.toArray := by rw [hg]; exact hp.1
  have hp2 : g.IsList l2 us2.toArray := by rw [hg]; exact hp.2
  rw [← hg] at hret
  clear hlt F X N B T
  try dsimp only
  k_with "call ref" =>
    refine' use_val (c_compare ?i1 ?i2 ?n1 ?n2) ?B ?F ?X ?T ?N ?hk ?hd ?hu ?hp ?_
    case hp => exact ⟨by is_list, by is_list⟩
    case B => k_asm
    case F => k_asm
    case X => k_asm
    case T => k_asm
    case N => k_asm
    case hk => rfl
    case hd => ktr_room
    case hu => ktr_units
    case i1 => l_ints
    case i2 => l_ints
    case n1 => omega
    case n2 => omega
    intro r h' tk' F' N' st hP
    obtain ⟨c, t, hr9, hP⟩ := hP
    subst hr9
    have hP9 := hc c hP
    (try k_fold)
  k_with "call ref" =>
    refine' use_list (c_normal ?i1 ?n1) ?B ?F ?X ?T ?N ?hk ?hd ?hu ?hp ?_
    case hp => is_list
    case B => k_asm
    case F => k_asm
    case X => k_asm
    case T => k_asm
    case N => k_asm
    case hk => rfl
    case hd => ktr_room
    case hu => ktr_units
    case i1 => l_ints
    case n1 => (first | omega | (simp only [rangeKs_length] at *; omega))
    intro l' us' n' ns' h' tk' F' N' l1 hI' hP
    (try replace l1 := allNe_of l1)
    (try simp only [AllNe, and_true] at l1)
    (try k_fold)
  k_with "pyIter ref" => k_state (fun pre found borrow => found.length = pre.length ∧ 0 ≤ borrow ∧ borrow ≤ 1 ∧ SInv (2 ^ wd.toNat) ns ms pre.length found borrow) "found" "borrow"
  k_with "state" => k_dflt (first
    | exact ⟨rfl, by decide, by decide, sinv_start⟩
    | exact sub_turn (pow_gt1 hw) hr hr2 (by assumption) (by assumption) (by assumption) (by assumption) (by assumption) rfl rfl (.inl ⟨by assumption, rfl, rfl⟩)
    | exact sub_turn (pow_gt1 hw) hr hr2 (by assumption) (by assumption) (by assumption) (by assumption) (by assumption) rfl rfl (.inr ⟨by assumption, rfl, rfl⟩)
    | exact sub_turn (pow_gt1 hw) hr hr2 (by assumption) (by assumption) (by assumption) (by assumption) (by assumption) (getD_out (by omega)).symm rfl (.inl ⟨by assumption, rfl, rfl⟩)
    | exact sub_turn (pow_gt1 hw) hr hr2 (by assumption) (by assumption) (by assumption) (by assumption) (by assumption) (getD_out (by omega)).symm rfl (.inr ⟨by assumption, rfl, rfl⟩))
  k_steps
  refine hret _ _ _ (Fr.keep (by assumption)) (freshL_of (by assumption) (.head _) (by assumption) (sub_end (by assumption) (by assumption) (by assumption) (by assumption) (by assumption)))
end Mine
namespace Mine
theorem freshL_push {g h : Heap} {L : Addr} {news : Led} {l : Addr} {us : List Value} {v : Value} {n : Nat} {ns : List Int} {P : List Int → Prop} (N : News g L h news) (hm : (l, listOf (us.toArray.push v) n) ∈ news) (hI : IntsAre (us ++ [v]) ns) (hP : P ns) : FreshL g (.ref l) h P := by
  rw [List.push_toArray] at hm
  exact freshL_of N hm hI hP
theorem bitAnd_mask (n : Nat) {x : Int} (hx : 0 ≤ x) : Builtin.bitAnd x (1 * 2 ^ n - 1) = x % 2 ^ n := by
  have hp : (0 : Int) < 2 ^ n := Int.pow_pos (by decide)
  have e : ((2 ^ n : Nat) : Int) = 2 ^ n := by simp
  unfold Builtin.bitAnd
  simp only [hx, decide_true, show decide ((0 : Int) ≤ 1 * 2 ^ n - 1) = true by rw [decide_eq_true_eq]; omega]
  have e2 : (1 * (2 : Int) ^ n - 1).toNat = 2 ^ n - 1 := by omega
  rw [e2, Nat.and_two_pow_sub_one_eq_mod]
  have e3 : x % 2 ^ n = ((x.toNat % 2 ^ n : Nat) : Int) := by
    rw [Int.natCast_emod, e]; congr 1; omega
  rw [e3]
theorem fdiv_pos' {x b : Int} (hb : 0 < b) : x.fdiv b = x / b := Int.fdiv_eq_ediv_of_nonneg x (Int.le_of_lt hb)
theorem flat_rep (n : Nat) : (List.replicate n [(0 : Int)]).flatten = List.replicate n 0 := by simp
theorem lift_a {ns : List Int} {sp : Int} (h : 0 < (ns.length : Int)) : (List.replicate sp.toNat [(0 : Int)]).flatten ++ ns = if ns.length = 0 then [] else List.replicate sp.toNat 0 ++ ns := by
  rw [if_neg (by omega), flat_rep]
theorem lift_b {ns : List Int} {sp : Int} (h : ¬ 0 < (ns.length : Int)) : [] = if ns.length = 0 then [] else List.replicate sp.toNat 0 ++ ns := by
  rw [if_pos (by omega)]
theorem mul1_a {x lb wd : Int} (h0 : 0 ≤ x) (h1 : 0 < lb) (r : List Int) : ((List.foldl (fun (p : Int × List Int) k => ((p.fst + k * lb).fdiv (2 ^ wd.toNat), p.snd ++ [Builtin.bitAnd (p.fst + k * lb) (1 * 2 ^ wd.toNat - 1)])) (0, []) [x]).snd ++ r).take 1 = [(x * lb) % 2 ^ wd.toNat] := by
  have h2 := Int.mul_nonneg h0 (Int.le_of_lt h1)
  simp only [List.foldl_cons, List.foldl_nil, Int.zero_add, List.nil_append, List.cons_append, List.take_succ_cons, List.take_zero]
  rw [bitAnd_mask _ h2]
theorem mul1_b {x lb wd : Int} (h0 : 0 ≤ x) (h1 : 0 < lb) : ((List.foldl (fun (p : Int × List Int) k => ((p.fst + k * lb).fdiv (2 ^ wd.toNat), p.snd ++ [Builtin.bitAnd (p.fst + k * lb) (1 * 2 ^ wd.toNat - 1)])) (0, []) [x]).snd).take 1 = [(x * lb) % 2 ^ wd.toNat] := by
  have := mul1_a h0 h1 (wd := wd) []
  rwa [List.append_nil] at this
theorem c_lifted {w : World} {mean : ExcName → Option Value} {mg mb : Str → Option Value} {l : Addr} {us : List Value} {ns : List Int} {sp : Int} {tw : Tok} (hI : IntsAre us ns) (hlen : ns.length < 2 ^ 19) (hs : 0 ≤ sp) (hs2 : sp < 1000) :
    Claim 2 w mean mg mb 74 [.ref l, .int sp tw] [] (fun g => isL g l us) (fun g r h' => FreshL g r h' (fun rs => rs = if ns.length = 0 then [] else List.replicate sp.toNat 0 ++ ns)) := by
  k_with_none
  w_top off
  walk_at "M OPEN"
  intro dp un gd cn cs L a ccd cl outer A₀ base h₀ m s Q E B F X T N hk hd hu hp hret
  walk_at "M ENTER"
  intro g L' h₁ tk hg F' N' B' X' T' hlt
  have hp1 : g.IsList l us.toArray := by rw [hg]; exact hp
  rw [← hg] at hret
  clear hlt F X N B T
  try dsimp only
  k_steps
  all_goals refine hret _ _ _ (Fr.keep (by assumption)) (freshL_of (by assumption) (.head _) (by first | assumption | exact IntsAre.nil) ?_)
  · exact lift_a (by assumption)
  · exact lift_b (by assumption)
theorem c_mul1 {w : World} {mean : ExcName → Option Value} {mg mb : Str → Option Value} {l : Addr} {us : List Value} {x lb wd : Int} {tw tl : Tok} (hI : IntsAre us [x]) (hw : 2 ≤ wd) (hw' : wd ≤ 9) (hx : 0 ≤ x) (hx2 : x < 512) (hb : 0 < lb) (hb2 : lb < 2048) :
    Claim 2 w mean mg mb 81 [.ref l, .int lb tl, .int wd tw] [] (fun g => isL g l us) (fun g r h' => FreshL g r h' (fun rs => rs.length ≤ 2 ∧ rs.take 1 = [(x * lb) % 2 ^ wd.toNat])) := by
  k_with_none
  w_top off
  walk_at "M OPEN"
  intro dp un gd cn cs L a ccd cl outer A₀ base h₀ m s Q E B F X T N hk hd hu hp hret
  walk_at "M ENTER"
  intro g L' h₁ tk hg F' N' B' X' T' hlt
  have hp1 : g.IsList l us.toArray := by rw [hg]; exact hp
  rw [← hg] at hret
  clear hlt F X N B T
  try dsimp only
  k_steps
  · exfalso; omega
  all_goals (try dsimp only)
  · refine hret _ _ _ (Fr.keep (by assumption)) (freshL_push (by assumption) (by k_mem) (by l_ints) ⟨by simp, mul1_a hx hb _⟩)
  · refine hret _ _ _ (Fr.keep (by assumption)) (freshL_of (by assumption) (by k_mem) (by l_ints) ⟨by simp, mul1_b hx hb⟩)
end Mine
namespace Mine
/-- the row of nu is half reckoned -/
def RInv (b nu : Int) (found : List Int) (n : Int) : Prop := Rng b found ∧ val b found + n * b ^ found.length = nu ∧ (n = 0 → Canon found)
theorem rinv_start {b nu : Int} : RInv b nu [] nu := ⟨fun _ h => (nomatch h), by simp [val], fun _ h => absurd h (by simp)⟩
theorem rinv_len {b nu : Int} (hb : 4 ≤ b) {f : List Int} {n : Int} (hn : nu < 2 ^ 100) (h : RInv b nu f n) (hp : 0 < n) : f.length ≤ 50 := by
  have h1 := val_nonneg (by omega) h.1
  have h2 : 1 * b ^ f.length ≤ n * b ^ f.length := Int.mul_le_mul_of_nonneg_right (by omega) (Int.le_of_lt (pow_pos' (by omega) _))
  have h3 := h.2.1
  apply Classical.byContradiction
  intro hc
  obtain ⟨d, hd⟩ := Nat.exists_eq_add_of_le (show 51 ≤ f.length by omega)
  have h4 : (4 : Int) ^ 51 ≤ b ^ 51 := by
    have e : ((4 ^ 51 : Nat) : Int) ≤ ((b.toNat ^ 51 : Nat) : Int) := Int.ofNat_le.mpr (Nat.pow_le_pow_left (by omega) 51)
    have e2 : ((b.toNat ^ 51 : Nat) : Int) = b ^ 51 := by rw [Int.natCast_pow]; congr 1; omega
    rw [e2] at e
    exact e
  have h5 := pow_pos' (show 0 < b by omega) d
  have h6 : b ^ 51 * 1 ≤ b ^ 51 * b ^ d := Int.mul_le_mul_of_nonneg_left (by omega) (Int.le_of_lt (pow_pos' (by omega) 51))
  rw [hd, Int.pow_add] at h2 h3
  omega
theorem rinv_step {b nu : Int} (hb : 4 ≤ b) {f : List Int} {n : Int} (h : RInv b nu f n) (hp : 0 < n) : RInv b nu (f ++ [n % b]) (n / b) := by
  have e0 := Int.emod_nonneg n (show b ≠ 0 by omega)
  have e1 := Int.emod_lt_of_pos n (show 0 < b by omega)
  have e2 := Int.mul_ediv_add_emod n b
  refine ⟨h.1.append (Rng.one e0 e1), ?_, fun hz => ?_⟩
  · rw [val_append, val_one, List.length_append, List.length_singleton, Int.pow_succ, ← h.2.1]
    grind
  · intro _
    rw [List.length_append, List.length_singleton, Nat.add_sub_cancel, getD_of (by simp), List.getElem_append_right (Nat.le_refl _)]
    simp only [Nat.sub_self, List.getElem_cons_zero]
    rw [hz] at e2
    omega
theorem row_turn {b nu : Int} (hb : 4 ≤ b) {f : List Int} {n : Int} (hB : ∀ f n, RInv b nu f n → 0 < n → f.length ≤ 50) (h : RInv b nu f n) (hp : 0 < n) : 0 ≤ n.fdiv b ∧ (f ++ [n.fmod b]).length ≤ 51 ∧ RInv b nu (f ++ [n.fmod b]) (n.fdiv b) := by
  rw [Int.fdiv_eq_ediv_of_nonneg n (by omega), Int.fmod_eq_emod_of_nonneg n (by omega)]
  refine ⟨Int.ediv_nonneg (by omega) (by omega), ?_, rinv_step hb h hp⟩
  have := hB f n h hp
  rw [List.length_append, List.length_singleton]; omega
theorem row_less {b n : Int} (hb : 4 ≤ b) (hp : 0 < n) : (n.fdiv b).toNat < n.toNat := by
  rw [Int.fdiv_eq_ediv_of_nonneg n (by omega)]
  have h1 := Int.ediv_lt_self_of_pos_of_ne_one hp (show b ≠ 1 by omega)
  omega
theorem row_end {b nu : Int} {f : List Int} {n : Int} (h : RInv b nu f n) (h0 : 0 ≤ n) (hp : ¬ 0 < n) : Rng b f ∧ Canon f ∧ val b f = nu := by
  have e : n = 0 := by omega
  subst e
  refine ⟨h.1, h.2.2 rfl, ?_⟩
  have := h.2.1
  omega
theorem pow_ge4 {wd : Int} (hw : 2 ≤ wd) : (4 : Int) ≤ 2 ^ wd.toNat := by
  obtain ⟨k, hk⟩ := Nat.exists_eq_add_of_le (show 2 ≤ wd.toNat by omega)
  rw [hk, Int.pow_add]
  have := Int.pow_pos (n := 2) (m := k) (by decide)
  omega
theorem pow_le512 {wd : Int} (hw : 2 ≤ wd) (hw' : wd ≤ 9) : (2 : Int) ^ wd.toNat ≤ 512 := by
  rcases (show wd = 2 ∨ wd = 3 ∨ wd = 4 ∨ wd = 5 ∨ wd = 6 ∨ wd = 7 ∨ wd = 8 ∨ wd = 9 by omega) with rfl | rfl | rfl | rfl | rfl | rfl | rfl | rfl <;> decide
theorem c_row {w : World} {mean : ExcName → Option Value} {mg mb : Str → Option Value} {wd nu : Int} {tw tn : Tok} (hw : 2 ≤ wd) (hw' : wd ≤ 9) (hn : 0 ≤ nu) (hn2 : nu < 2 ^ 100) :
    Claim 2 w mean mg mb 144 [.int nu tn, .int wd tw] [] (fun g => True) (fun g r h' => FreshL g r h' (fun rs => rs.length ≤ 51 ∧ Rng (2 ^ wd.toNat) rs ∧ Canon rs ∧ val (2 ^ wd.toNat) rs = nu)) := by
  k_with_none
  w_top off
  walk_at "M OPEN"
  intro dp un gd cn cs L a ccd cl outer A₀ base h₀ m s Q E B F X T N hk hd hu hp hret
  walk_at "M ENTER"
  intro g L' h₁ tk hg F' N' B' X' T' hlt
  rw [← hg] at hret
  have hnil := IntsAre.nil
  have hB : ∀ f n, RInv (2 ^ wd.toNat) nu f n → 0 < n → f.length ≤ 50 := fun f n h h' => rinv_len (pow_ge4 hw) hn2 h h'
  clear hlt F X N B T hn2
  try dsimp only
  k_with "exec While Compare cons nil" => k_while (fun _ found n => 0 ≤ n ∧ found.length ≤ 51 ∧ RInv (2 ^ wd.toNat) nu found n) (fun _ _ n => n.toNat) "found" "number"
  k_with "state" => k_dflt (first
    | exact ⟨hn, Nat.zero_le _, rinv_start⟩
    | exact row_turn (pow_ge4 hw) hB (by assumption) (by assumption))
  k_with "measure" => exact row_less (pow_ge4 hw) (by assumption)
  k_steps
  try dsimp only
  refine hret _ _ _ (Fr.keep (by assumption)) (freshL_of (by assumption) (.head _) (by assumption) ⟨by assumption, row_end (by assumption) (by assumption) (by assumption)⟩)
end Mine
namespace Mine
def MutL (l : Addr) (h' : Heap) (P : List Int → Prop) : Prop := ∃ us n ns, h'.get? l = some (listOf (List.toArray us) n) ∧ IntsAre us ns ∧ P ns
theorem mutL_of {g h : Heap} {L : Addr} {news : Led} {l : Addr} {us : List Value} {n : Nat} {ns : List Int} {P : List Int → Prop} (N : News g L h news) (hm : (l, listOf us.toArray n) ∈ news) (hI : IntsAre us ns) (hP : P ns) : MutL l h P :=
  ⟨us, n, ns, (N _ hm).1, hI, hP⟩
section
variable {w : World} {s : Shared} {A₀ : Around} {base h₀ : Heap} {outer : List Env} {L : Addr} {m : Str → Option Value} {news : Led} {f : Addr} {mean : ExcName → Option Value} {mg mb : Str → Option Value}
theorem use_mutL {lv dp un : Nat} {gd : Option (List Code)} {cn : Str} {cs : Scope} {a d : Addr} {o : Obj} {G : Obj → Led} {ccd : Value} {cl : List (Str × Addr)} {vs : List Value} {Pre : Heap → Prop} {P : List Int → Prop} {Q E : Value → Shared → Prop}
    (C : Claim lv w mean mg mb f vs [(d, o)] Pre (fun _ _ h' => MutL d h' P)) (U : UpdF d o news G) (B : Below A₀ base outer h₀) (F : Fr h₀ L s.heap m) (X : (KK w).In h₀) (T : TT mean mg mb h₀) (N : News h₀ L s.heap news) (hk : cs.kind = .function) (hd : dp + lv < recursionLimit) (hu : un + 10 * lv < cLine)
    (hp : Pre (hideAll s.heap [d]))
    (k : ∀ r us n ns h' tk', Fr h₀ L h' m → News h₀ L h' (G (listOf (List.toArray us) n)) → IntsAre us ns → P ns → Q r { s with heap := h', toks := tk' }) :
    wpAny (model PP w) (ktrTop dp un gd cn cs L a ccd cl outer) (call (.ref f) vs) Q E s := by
  obtain ⟨pre, post, rfl, hG, h1, h2⟩ := U.split
  have N1 : News h₀ L s.heap [(d, o)] := fun p hp => by
    rw [List.mem_singleton.mp hp]; exact N _ (by simp)
  refine C dp un gd cn cs L a ccd cl outer A₀ base h₀ m s Q E B F X T N1 hk hd hu hp fun r h' tk' st po => ?_
  obtain ⟨us, n, ns, hl, hI, hP⟩ := po
  obtain ⟨F', N'⟩ := fr_mut F N st hl h1 h2
  exact k r us n ns h' tk' F' (by rw [hG]; exact N') hI hP
theorem isL_hide {h : Heap} {d l : Addr} {o : Obj} {us : List Value} (F : Fr h₀ L h m) (N : News h₀ L h news) (hd : (d, o) ∈ news) (hl : h₀.IsList l us.toArray) : isL (hideAll h [d]) l us := by
  obtain ⟨ol, hol, r⟩ := hl
  refine ⟨ol, hideAll_get _ (F.keep _ _ hol) (fun q => ?_), r⟩
  rw [List.mem_singleton.mp q, (N _ hd).2.2] at hol
  cases hol
theorem inst_base {h : Heap} {x C dx : Addr} {od : Obj} (F : Fr h₀ L h m) (h1 : h₀.get? x = some (instObj C dx)) (h2 : h₀.get? dx = some od) : InstAt h x (instObj C dx) C (some od) := ⟨F.keep _ _ h1, rfl, rfl, F.keep _ _ h2⟩
end
theorem val_set (b : Int) {ns : List Int} {k : Nat} (hk : k < ns.length) (y : Int) : val b (ns.set k y) = val b ns + (y - ns.getD k 0) * b ^ k := by
  have hk2 : k < (ns.set k y).length := by rw [List.length_set]; exact hk
  have e1 : (ns.set k y).drop (k + 1) = ns.drop (k + 1) := by
    rw [List.drop_set]; simp
  have e2 : (ns.set k y).take k = ns.take k := by
    rw [List.take_set_of_le (Nat.le_refl k)]
  rw [val_split b (ns.set k y) (k + 1) hk2, val_split b ns (k + 1) hk, val_take_succ, val_take_succ, e1, e2, getD_of hk2, List.getElem_set_self]
  grind
theorem Rng.set {b : Int} {ns : List Int} (h : Rng b ns) {k : Nat} {y : Int} (h0 : 0 ≤ y) (h1 : y < b) : Rng b (ns.set k y) := fun x hx => by
  rcases List.mem_or_eq_of_mem_set hx with q | q
  · exact h x q
  · rw [q]; exact ⟨h0, h1⟩
/-- one limb is added: what is over goes on -/
theorem carry_step {b : Int} {n : Nat} (hb : b = 2 ^ n) {rest : List Int} {k : Nat} {c x t : Int} (hk : k < rest.length) (hr : Rng b rest) (hc : 0 ≤ c) (hx : 0 ≤ x) (ht : t = c + (rest.getD k 0 + x)) :
    Rng b (rest.set k (Builtin.bitAnd t (1 * 2 ^ n - 1))) ∧ val b (rest.set k (Builtin.bitAnd t (1 * 2 ^ n - 1))) + t.fdiv (2 ^ n) * b ^ (k + 1) = val b rest + (c + x) * b ^ k ∧ 0 ≤ t.fdiv (2 ^ n) := by
  have hb0 : 0 < b := by rw [hb]; exact Int.pow_pos (by decide)
  have g := hr.getD hb0 k
  have ht0 : 0 ≤ t := by omega
  have e0 := Int.emod_nonneg t (show b ≠ 0 by omega)
  have e1 := Int.emod_lt_of_pos t hb0
  have e2 := Int.mul_ediv_add_emod t b
  rw [bitAnd_mask n ht0, Int.fdiv_eq_ediv_of_nonneg t (by rw [← hb]; omega), ← hb]
  refine ⟨hr.set e0 e1, ?_, Int.ediv_nonneg ht0 (by omega)⟩
  rw [val_set b hk, Int.pow_succ]
  generalize hq : t / b = q at *
  generalize hm : t % b = mm at *
  generalize rest.getD k 0 = r at *
  have : mm = c + (r + x) - b * q := by omega
  subst this
  grind
/-- the row pre times lb is added into the row ns from place at0 on: c is left over -/
def AddI (b lb : Int) (ns : List Int) (at0 : Int) (pre : List Int) (c : Int) (rest : List Int) : Prop :=
  c < b ∧ Rng b rest ∧ val b rest + c * b ^ (at0.toNat + pre.length) = val b ns + val b pre * lb * b ^ at0.toNat
theorem addI_turn {b lb : Int} {n : Nat} (hb : b = 2 ^ n) (hb1 : 1 < b) (hb2 : b ≤ 512) {ns ms pre post rest : List Int} {at0 a c x : Int} (h0 : 0 ≤ lb) (h1 : lb < b) (hr2 : Rng b ms) (he : ms = pre ++ x :: post) (ha0 : 0 ≤ at0)
    (hal : at0 + (ms.length : Int) ≤ (ns.length : Int)) (ha : a = at0 + (pre.length : Int)) (hc : 0 ≤ c) (hl : rest.length = ns.length) (h : AddI b lb ns at0 pre c rest) :
    a + 1 = at0 + ((pre ++ [x]).length : Int) ∧ 0 ≤ (c + (rest.getD a.toNat 0 + x * lb)).fdiv (2 ^ n) ∧ (c + (rest.getD a.toNat 0 + x * lb)).fdiv (2 ^ n) < 512 ∧ (rest.set a.toNat (Builtin.bitAnd (c + (rest.getD a.toNat 0 + x * lb)) (1 * 2 ^ n - 1))).length = ns.length ∧
      AddI b lb ns at0 (pre ++ [x]) ((c + (rest.getD a.toNat 0 + x * lb)).fdiv (2 ^ n)) (rest.set a.toNat (Builtin.bitAnd (c + (rest.getD a.toNat 0 + x * lb)) (1 * 2 ^ n - 1))) := by
  have hx := hr2 x (by rw [he]; simp)
  have hlen : ms.length = pre.length + (post.length + 1) := by rw [he]; simp
  have hxl := Int.mul_nonneg hx.1 h0
  have ek : a.toNat = at0.toNat + pre.length := by omega
  obtain ⟨s1, s2, s3⟩ := carry_step (b := b) (n := n) hb (k := a.toNat) (c := c) (x := x * lb) (by omega) h.2.1 hc hxl rfl
  have g := h.2.1.getD (by omega) a.toNat
  have hbb : x * lb ≤ (b - 1) * (b - 1) := by
    have q1 : x * lb ≤ (b - 1) * lb := Int.mul_le_mul_of_nonneg_right (by omega) h0
    have q2 : (b - 1) * lb ≤ (b - 1) * (b - 1) := Int.mul_le_mul_of_nonneg_left (by omega) (by omega)
    omega
  have hcb : (c + (rest.getD a.toNat 0 + x * lb)).fdiv (2 ^ n) < b := by
    rw [← hb, Int.fdiv_eq_ediv_of_nonneg _ (by omega)]
    refine Int.ediv_lt_of_lt_mul (by omega) ?_
    have e : (b - 1) * (b - 1) = b * b - 2 * b + 1 := by grind
    have := h.1
    omega
  refine ⟨by rw [List.length_append, List.length_singleton]; omega, s3, by omega, by rw [List.length_set]; exact hl, hcb, s1, ?_⟩
  rw [List.length_append, List.length_singleton, val_append, val_one, ← Nat.add_assoc, ← ek, s2]
  have h3 := h.2.2
  rw [← ek] at h3
  have e2 : b ^ a.toNat = b ^ at0.toNat * b ^ pre.length := by rw [ek, Int.pow_add]
  rw [Int.add_mul, ← Int.add_assoc, h3, e2]
  grind
def AddW (b tot : Int) (a : Int) (c : Int) (rest : List Int) : Prop := c < b ∧ Rng b rest ∧ val b rest + c * b ^ a.toNat = tot
theorem addW_in {b tot : Int} (hb1 : 1 < b) {N : Nat} {a c : Int} {rest : List Int} (ht : tot < b ^ N) (ha : 0 ≤ a) (haN : a ≤ (N : Int)) (h : AddW b tot a c rest) (hc : 0 < c) : a < (N : Int) := by
  rcases Int.lt_or_eq_of_le haN with q | q
  · exact q
  · have e : a.toNat = N := by omega
    have h1 := h.2.2
    have h2 := val_nonneg (by omega) h.2.1
    have h3 : 1 * b ^ N ≤ c * b ^ N := Int.mul_le_mul_of_nonneg_right (by omega) (Int.le_of_lt (pow_pos' (by omega) _))
    rw [e] at h1
    omega
theorem addW_start {b lb : Int} (hb1 : 1 < b) {ns ms rest : List Int} {at0 a c : Int} (ht : val b ns + val b ms * lb * b ^ at0.toNat < b ^ ns.length) (ha0 : 0 ≤ at0) (hal : at0 + (ms.length : Int) ≤ (ns.length : Int)) (ha : a = at0 + (ms.length : Int)) (hc : 0 ≤ c) (hc2 : c < 512) (hl : rest.length = ns.length) (h : AddI b lb ns at0 ms c rest) :
    0 ≤ a ∧ a ≤ (ns.length : Int) ∧ (0 < c → a < (ns.length : Int)) ∧ 0 ≤ c ∧ c < 512 ∧ rest.length = ns.length ∧ AddW b (val b ns + val b ms * lb * b ^ at0.toNat) a c rest := by
  have ek : a.toNat = at0.toNat + ms.length := by omega
  have hW : AddW b (val b ns + val b ms * lb * b ^ at0.toNat) a c rest := ⟨h.1, h.2.1, by rw [ek]; exact h.2.2⟩
  exact ⟨by omega, by omega, fun q => addW_in hb1 ht (by omega) (by omega) hW q, hc, hc2, hl, hW⟩
theorem addW_turn {b tot : Int} {n : Nat} (hb : b = 2 ^ n) (hb1 : 1 < b) (hb2 : b ≤ 512) {ns rest : List Int} {a c : Int} (ht : tot < b ^ ns.length) (ha : 0 ≤ a) (hin : 0 < c → a < (ns.length : Int)) (hp : 0 < c) (hl : rest.length = ns.length) (h : AddW b tot a c rest) :
    0 ≤ a + 1 ∧ a + 1 ≤ (ns.length : Int) ∧ (0 < (c + rest.getD a.toNat 0).fdiv (2 ^ n) → a + 1 < (ns.length : Int)) ∧ 0 ≤ (c + rest.getD a.toNat 0).fdiv (2 ^ n) ∧ (c + rest.getD a.toNat 0).fdiv (2 ^ n) < 512 ∧ (rest.set a.toNat (Builtin.bitAnd (c + rest.getD a.toNat 0) (1 * 2 ^ n - 1))).length = ns.length ∧
      AddW b tot (a + 1) ((c + rest.getD a.toNat 0).fdiv (2 ^ n)) (rest.set a.toNat (Builtin.bitAnd (c + rest.getD a.toNat 0) (1 * 2 ^ n - 1))) := by
  have hlt := hin hp
  obtain ⟨s1, s2, s3⟩ := carry_step (b := b) (n := n) hb (k := a.toNat) (c := c) (x := 0) (t := c + rest.getD a.toNat 0) (by omega) h.2.1 (by omega) (Int.le_refl 0) (by omega)
  have g := h.2.1.getD (by omega) a.toNat
  have hcb : (c + rest.getD a.toNat 0).fdiv (2 ^ n) < b := by
    rw [← hb, Int.fdiv_eq_ediv_of_nonneg _ (by omega)]
    refine Int.ediv_lt_of_lt_mul (by omega) ?_
    have := h.1
    have h5 : 2 * b ≤ b * b := Int.mul_le_mul_of_nonneg_right (by omega) (by omega)
    omega
  have ek : (a + 1).toNat = a.toNat + 1 := by omega
  have hW : AddW b tot (a + 1) ((c + rest.getD a.toNat 0).fdiv (2 ^ n)) (rest.set a.toNat (Builtin.bitAnd (c + rest.getD a.toNat 0) (1 * 2 ^ n - 1))) := by
    refine ⟨hcb, s1, ?_⟩
    rw [ek, s2, Int.add_zero]; exact h.2.2
  exact ⟨by omega, by omega, fun q => addW_in hb1 ht (by omega) (by omega) hW q, s3, by omega, by rw [List.length_set]; exact hl, hW⟩
theorem addW_end {b tot : Int} {a c : Int} {rest : List Int} (h0 : 0 ≤ c) (hn : ¬ 0 < c) (h : AddW b tot a c rest) : Rng b rest ∧ val b rest = tot := by
  have e : c = 0 := by omega
  subst e
  refine ⟨h.2.1, ?_⟩
  have := h.2.2
  rwa [Int.zero_mul, Int.add_zero] at this
theorem c_add {w : World} {mean : ExcName → Option Value} {mg mb : Str → Option Value} {l l2 : Addr} {us us2 : List Value} {ns ms : List Int} {n0 : Nat} {lb at0 wd : Int} {tl ta tw : Tok} (hI : IntsAre us ns) (hI2 : IntsAre us2 ms) (hlen : ns.length < 2 ^ 19)
    (hw : 2 ≤ wd) (hw' : wd ≤ 9) (hr : Rng (2 ^ wd.toNat) ns) (hr2 : Rng (2 ^ wd.toNat) ms) (h0 : 0 ≤ lb) (h1 : lb < 2 ^ wd.toNat) (ha : 0 ≤ at0) (hal : at0 + (ms.length : Int) ≤ (ns.length : Int))
    (ht : val (2 ^ wd.toNat) ns + val (2 ^ wd.toNat) ms * lb * (2 ^ wd.toNat) ^ at0.toNat < (2 ^ wd.toNat) ^ ns.length) :
    Claim 2 w mean mg mb 109 [.ref l, .ref l2, .int lb tl, .int at0 ta, .int wd tw] [(l, listOf us.toArray n0)] (fun g => isL g l2 us2)
      (fun g r h' => MutL l h' (fun ns' => ns'.length = ns.length ∧ Rng (2 ^ wd.toNat) ns' ∧ val (2 ^ wd.toNat) ns' = val (2 ^ wd.toNat) ns + val (2 ^ wd.toNat) ms * lb * (2 ^ wd.toNat) ^ at0.toNat)) := by
  k_with_none
  w_top off
  walk_at "M OPEN"
  intro dp un gd cn cs L a ccd cl outer A₀ base h₀ m s Q E B F X T N hk hd hu hp hret
  walk_at "M ENTER"
  intro g L' h₁ tk hg F' N' B' X' T' hlt
  have hp1 : g.IsList l2 us2.toArray := by rw [hg]; exact hp
  rw [← hg] at hret
  have hb512 : (2 : Int) ^ wd.toNat ≤ 512 := pow_le512 hw hw'
  have hlb : lb < 512 := by omega
  clear hlt F X N B T hp
  try dsimp only
  have hb1 := pow_gt1 hw
  k_with "pyIter ref" => k_state (fun pre carry rest at' => at' = at0 + (pre.length : Int) ∧ 0 ≤ carry ∧ carry < 512 ∧ rest.length = ns.length ∧ AddI (2 ^ wd.toNat) lb ns at0 pre carry rest) "carry" "rest" "at"
  k_with "exec While Compare cons nil" => k_while (fun _ carry rest at' => 0 ≤ at' ∧ at' ≤ (ns.length : Int) ∧ (0 < carry → at' < (ns.length : Int)) ∧ 0 ≤ carry ∧ carry < 512 ∧ rest.length = ns.length ∧ AddW (2 ^ wd.toNat) (val (2 ^ wd.toNat) ns + val (2 ^ wd.toNat) ms * lb * (2 ^ wd.toNat) ^ at0.toNat) at' carry rest) (fun _ _ _ at' => ((ns.length : Int) - at').toNat) "carry" "rest" "at"
  k_with "state" => k_dflt (first
    | exact ⟨by simp, by decide, by decide, rfl, by omega, hr, by simp [val]⟩
    | exact addI_turn rfl hb1 hb512 h0 h1 hr2 (by assumption) ha hal (by assumption) (by assumption) (by assumption) (by assumption)
    | exact addW_start hb1 ht ha hal (by assumption) (by assumption) (by assumption) (by assumption) (by assumption)
    | exact addW_turn rfl hb1 hb512 ht (by assumption) (by assumption) (by assumption) (by assumption) (by assumption))
  k_steps
  refine hret _ _ _ (Fr.keep (by assumption)) (mutL_of (by assumption) (by k_mem) (by assumption) ⟨by assumption, addW_end (by assumption) (by assumption) (by assumption)⟩)
end Mine
namespace Mine
theorem News.get' {h₀ h : Heap} {L : Addr} {news : Led} {p : Addr × Obj} (N : News h₀ L h news) (hp : p ∈ news) : h.get? p.1 = some p.2 ∧ h₀.get? p.1 = none := ⟨(N p hp).1, (N p hp).2.2⟩
theorem cmpOf_fun {ns ms : List Int} {c c' : Int} (h : CmpOf ns ms c) (h' : CmpOf ns ms c') : c = c' := by
  rcases h with ⟨q, rfl⟩ | ⟨q, rfl⟩ | ⟨q, ⟨rfl, e⟩ | ⟨k, hk, he, hd⟩⟩ <;> rcases h' with ⟨q', rfl⟩ | ⟨q', rfl⟩ | ⟨q', ⟨rfl, e'⟩ | ⟨k', hk', he', hd'⟩⟩ <;> first | rfl | omega | skip
  · subst e; rcases hd' with ⟨a, _⟩ | ⟨a, _⟩ <;> exact absurd a (Int.lt_irrefl _)
  · subst e'; rcases hd with ⟨a, _⟩ | ⟨a, _⟩ <;> exact absurd a (Int.lt_irrefl _)
  · have ek : k = k' := by
      rcases Nat.lt_trichotomy k k' with x | x | x
      · have := he k' x; rcases hd' with ⟨a, _⟩ | ⟨a, _⟩ <;> omega
      · exact x
      · have := he' k x; rcases hd with ⟨a, _⟩ | ⟨a, _⟩ <;> omega
    subst ek
    rcases hd with ⟨a, rfl⟩ | ⟨a, rfl⟩ <;> rcases hd' with ⟨a', rfl⟩ | ⟨a', rfl⟩ <;> first | rfl | omega
def TakenOf (b : Int) (ns ms r : List Int) : Prop := ((∃ c, CmpOf ns ms c ∧ c < 0) ∧ r = ns) ∨ ((∃ c, CmpOf ns ms c ∧ 0 ≤ c) ∧ SubOf b ns ms r)
theorem cmp_ge {ns ms : List Int} {c : Int} (h : CmpOf ns ms c) (h0 : 0 ≤ c) : ∀ c', CmpOf ns ms c' → 0 ≤ c' := fun c' h' => by
  rw [← cmpOf_fun h h']; exact h0
theorem c_taken {w : World} {mean : ExcName → Option Value} {mg mb : Str → Option Value} {l l2 : Addr} {us us2 : List Value} {ns ms : List Int} {n0 : Nat} {wd : Int} {tw : Tok} (hI : IntsAre us ns) (hI2 : IntsAre us2 ms) (hlen : ns.length < 2 ^ 19) (hlen2 : ms.length < 2 ^ 19)
    (hw : 2 ≤ wd) (hw' : wd ≤ 9) (hr : Rng (2 ^ wd.toNat) ns) (hr2 : Rng (2 ^ wd.toNat) ms) :
    Claim 4 w mean mg mb 116 [.ref l, .ref l2, .int wd tw] [] (fun g => g.get? l = some (listOf us.toArray n0) ∧ isL g l2 us2)
      (fun g r h' => ∃ l' us' n' ns', r = .ref l' ∧ (l' = l ∨ g.get? l' = none) ∧ h'.get? l' = some (listOf (List.toArray us') n') ∧ IntsAre us' ns' ∧ TakenOf (2 ^ wd.toNat) ns ms ns') := by
  k_with_none
  w_top off
  walk_at "M OPEN"
  intro dp un gd cn cs L a ccd cl outer A₀ base h₀ m s Q E B F X T N hk hd hu hp hret
  walk_at "M ENTER"
  intro g L' h₁ tk hg F' N' B' X' T' hlt
  have hp0 : g.get? l = some (listOf us.toArray n0) := by rw [hg]; exact hp.1
  have hp1 : g.IsList l us.toArray := ⟨_, hp0, rfl, _, rfl⟩
  have hp2 : g.IsList l2 us2.toArray := by rw [hg]; exact hp.2
  rw [← hg] at hret
  clear hlt F X N B T hp
  try dsimp only
  k_with "call ref" =>
    refine' use_val (c_compare ?i1 ?i2 ?n1 ?n2) ?B ?F ?X ?T ?N ?hk ?hd ?hu ?hp ?_
    case hp => exact ⟨by is_list, by is_list⟩
    case B => k_asm
    case F => k_asm
    case X => k_asm
    case T => k_asm
    case N => k_asm
    case hk => rfl
    case hd => ktr_room
    case hu => ktr_units
    case i1 => l_ints
    case i2 => l_ints
    case n1 => omega
    case n2 => omega
    intro r h' tk' F' N' st hP
    obtain ⟨c, t, hr9, hP⟩ := hP
    subst hr9
    (try k_fold)
  k_with "call ref" =>
    refine' use_list (c_sub ?i1 ?i2 ?n1 ?n2 hw hw' hr hr2 ?hc) ?B ?F ?X ?T ?N ?hk ?hd ?hu ?hp ?_
    case hp => exact ⟨by is_list, by is_list⟩
    case B => k_asm
    case F => k_asm
    case X => k_asm
    case T => k_asm
    case N => k_asm
    case hk => rfl
    case hd => ktr_room
    case hu => ktr_units
    case i1 => l_ints
    case i2 => l_ints
    case n1 => omega
    case n2 => omega
    case hc => exact cmp_ge (by assumption) (by assumption)
    intro l' us' n' ns' h' tk' F' N' l1 hI' hP'
    (try replace l1 := allNe_of l1)
    (try simp only [AllNe, and_true] at l1)
    (try k_fold)
  k_steps
  · exact hret _ _ _ (Fr.keep (by assumption)) ⟨_, _, _, _, rfl, .inr ((News.get' (by assumption) (.head _)).2), (News.get' (by assumption) (.head _)).1, by assumption, .inr ⟨⟨_, by assumption, by assumption⟩, by assumption⟩⟩
  · exact hret _ _ _ (Fr.keep (by assumption)) ⟨_, _, _, _, rfl, .inl rfl, Fr.keep (by assumption) _ _ hp0, by assumption, .inl ⟨⟨_, by assumption, Int.not_le.mp (by assumption)⟩, rfl⟩⟩
end Mine
namespace Mine
abbrev toldDict (h1 h2 h3 h4 : Int) (t1 t2 t3 t4 tm : Tok) (n : Nat) (lm lo lsq : Addr) (mi : Int) : Obj :=
  dictOf [⟨h1, .str (Str.ofString "modulus") t1, .ref lm⟩, ⟨h2, .str (Str.ofString "minus") t2, .int mi tm⟩, ⟨h3, .str (Str.ofString "one") t3, .ref lo⟩, ⟨h4, .str (Str.ofString "square") t4, .ref lsq⟩] n
local macro_rules | `(tactic| k_inst) => `(tactic| exact Mine.inst_base (by k_asm) (by assumption) (by assumption))

/-- i turns of the reduction are done -/
def RedI (b : Int) (ns ms : List Int) (i : Nat) (rest : List Int) : Prop :=
  Rng b rest ∧ ∃ q, 0 ≤ q ∧ q < b ^ i ∧ val b rest = val b ns + q * val b ms ∧ b ^ i ∣ val b rest
def RedcOf (b : Int) (ns ms r : List Int) : Prop := Rng b r ∧ Canon r ∧ val b r < val b ms ∧ ∃ q : Int, b ^ ms.length * val b r = val b ns + q * val b ms
theorem pow_mono {b : Int} (hb : 1 < b) {i j : Nat} (h : i ≤ j) : b ^ i ≤ b ^ j := by
  obtain ⟨d, rfl⟩ := Nat.exists_eq_add_of_le h
  rw [Int.pow_add]
  have := pow_pos' (show 0 < b by omega) d
  have h5 : b ^ i * 1 ≤ b ^ i * b ^ d := Int.mul_le_mul_of_nonneg_left (by omega) (Int.le_of_lt (pow_pos' (by omega) _))
  omega
theorem val_rep (b : Int) (k : Nat) (ms : List Int) : val b (List.replicate k 0 ++ ms) = b ^ k * val b ms := by
  rw [val_append, List.length_replicate, val_zero (fun x hx => (List.mem_replicate.mp hx).2), Int.zero_add]
theorem redc_cmp {b c : Int} (hb : 1 < b) {ns ms ns' : List Int} (hr : Rng b ns) (hr2 : Rng b ms) (hc : Canon ns) (hc2 : Canon ms) (hm1 : 0 < ms.length) (ha : val b ns < val b ms * b ^ ms.length) (he : ns' = List.replicate ms.length 0 ++ ms) (h : CmpOf ns ns' c) : c < 0 := by
  have e1 : val b ns' = b ^ ms.length * val b ms := by rw [he, val_rep]
  have r1 : Rng b ns' := by
    rw [he]
    exact Rng.append (fun x hx => by rw [(List.mem_replicate.mp hx).2]; omega) hr2
  have c1 : Canon ns' := by
    intro _
    have hl : ns'.length - 1 = ms.length + (ms.length - 1) := by rw [he, List.length_append, List.length_replicate]; omega
    have := hc2 hm1
    rw [hl, he, List.getD_eq_getElem?_getD, List.getElem?_append_right (by rw [List.length_replicate]; omega), List.length_replicate, Nat.add_sub_cancel_left, ← List.getD_eq_getElem?_getD]
    exact this
  rcases cmpOf_val hb hr r1 hc c1 h with ⟨q, _⟩ | ⟨_, q⟩ | ⟨_, q⟩
  · exact q
  · rw [q, e1, Int.mul_comm] at ha; exact absurd ha (Int.lt_irrefl _)
  · rw [e1, Int.mul_comm] at q; omega
theorem redI_start {b : Int} (hb : 1 < b) {ns ms : List Int} (hr : Rng b ns) (k : Nat) : RedI b ns ms ([] : List Int).length (ns ++ List.replicate k 0) := by
  refine ⟨hr.append (fun x hx => by rw [(List.mem_replicate.mp hx).2]; omega), 0, by decide, by simp, ?_, by simp⟩
  rw [val_append, val_zero (ns := List.replicate k 0) (fun x hx => (List.mem_replicate.mp hx).2)]; simp
theorem lb_in {b : Int} {n : Nat} (hb : b = 2 ^ n) {rest : List Int} {i : Nat} {mi : Int} (hr : Rng b rest) (hmi : 0 ≤ mi) : Builtin.bitAnd (rest.getD i 0 * mi) (1 * 2 ^ n - 1) = (rest.getD i 0 * mi) % b ∧ 0 ≤ (rest.getD i 0 * mi) % b ∧ (rest.getD i 0 * mi) % b < b := by
  have hb0 : 0 < b := by rw [hb]; exact Int.pow_pos (by decide)
  have g := hr.getD hb0 i
  refine ⟨by rw [bitAnd_mask n (Int.mul_nonneg g.1 hmi), hb], Int.emod_nonneg _ (by omega), Int.emod_lt_of_pos _ hb0⟩
theorem red_q {b q lb : Int} (hb : 1 < b) {i : Nat} (hq : q < b ^ i) (h1 : lb < b) : q + lb * b ^ i < b ^ (i + 1) := by
  have h2 : lb * b ^ i ≤ (b - 1) * b ^ i := Int.mul_le_mul_of_nonneg_right (by omega) (Int.le_of_lt (pow_pos' (by omega) _))
  rw [Int.sub_mul, Int.one_mul] at h2
  rw [Int.pow_succ, Int.mul_comm (b ^ i)]
  omega
theorem red_room {b lb : Int} (hb : 1 < b) {ns ms rest : List Int} {i : Nat} (hr2 : Rng b ms) (ha : val b ns < val b ms * b ^ ms.length) (hl : rest.length = 2 * ms.length + 1) (hi : i < ms.length) (h0 : 0 ≤ lb) (h1 : lb < b) (h : RedI b ns ms i rest) :
    val b rest + val b ms * lb * b ^ i < b ^ rest.length := by
  obtain ⟨_, q, q0, q1, e, _⟩ := h
  have hq := red_q hb q1 h1
  have hM := val_nonneg (show 0 < b by omega) hr2
  have hM2 := val_lt (show 0 < b by omega) hr2
  have hpi : b ^ (i + 1) ≤ b ^ ms.length := pow_mono hb (by omega)
  have e2 : val b rest + val b ms * lb * b ^ i = val b ns + (q + lb * b ^ i) * val b ms := by rw [e]; grind
  have h3 : (q + lb * b ^ i) * val b ms ≤ b ^ ms.length * val b ms := Int.mul_le_mul_of_nonneg_right (by omega) hM
  have h4 : b ^ ms.length * val b ms ≤ b ^ ms.length * b ^ ms.length := Int.mul_le_mul_of_nonneg_left (by omega) (Int.le_of_lt (pow_pos' (by omega) _))
  have h5 : b ^ rest.length = b * (b ^ ms.length * b ^ ms.length) := by rw [hl, Int.pow_succ, Nat.two_mul, Int.pow_add]; grind
  have h6 : 2 * (b ^ ms.length * b ^ ms.length) ≤ b * (b ^ ms.length * b ^ ms.length) := Int.mul_le_mul_of_nonneg_right (by omega) (Int.le_of_lt (Int.mul_pos (pow_pos' (by omega) _) (pow_pos' (by omega) _)))
  rw [e2, h5]
  rw [Int.mul_comm (val b ms)] at ha
  omega
/-- the low limbs are nought -/
theorem red_low {b : Int} (hb : 1 < b) {rest : List Int} {i : Nat} (hr : Rng b rest) (hi : i ≤ rest.length) (hd : b ^ i ∣ val b rest) : val b rest = b ^ i * val b (rest.drop i) := by
  have e := val_split b rest i hi
  have h1 := val_lt (show 0 < b by omega) (hr.take i)
  have h0 := val_nonneg (show 0 < b by omega) (hr.take i)
  rw [List.length_take, Nat.min_eq_left hi] at h1
  have hd2 : b ^ i ∣ val b (rest.take i) := by
    have : val b (rest.take i) = val b rest - b ^ i * val b (rest.drop i) := by omega
    rw [this]
    exact Int.dvd_sub hd (Int.dvd_mul_right _ _)
  have h2 : val b (rest.take i) = 0 := by
    have hp := pow_pos' (show 0 < b by omega) i
    obtain ⟨t, ht⟩ := hd2
    rcases Int.lt_trichotomy t 0 with q | q | q
    · have : b ^ i * t ≤ b ^ i * (-1) := Int.mul_le_mul_of_nonneg_left (by omega) (Int.le_of_lt hp)
      omega
    · rw [ht, q, Int.mul_zero]
    · have : b ^ i * 1 ≤ b ^ i * t := Int.mul_le_mul_of_nonneg_left (by omega) (Int.le_of_lt hp)
      omega
  omega
theorem val_mod (b : Int) (l : List Int) : ∃ t, val b l = l.getD 0 0 + b * t := by
  cases l with
  | nil => exact ⟨0, by simp [val]⟩
  | cons x r => exact ⟨val b r, rfl⟩
theorem redI_turn {b mi lb : Int} (hb : 1 < b) {ns ms rest rest' : List Int} {i : Nat} (hmm : (ms.getD 0 0 * mi) % b = b - 1) (hl : i < rest.length) (hlb : lb = (rest.getD i 0 * mi) % b) (h0 : 0 ≤ lb) (h1 : lb < b) (h : RedI b ns ms i rest) (hr' : Rng b rest') (hv : val b rest' = val b rest + val b ms * lb * b ^ i) : RedI b ns ms (i + 1) rest' := by
  obtain ⟨hr, q, q0, q1, e, hd⟩ := h
  have hp := pow_pos' (show 0 < b by omega) i
  refine ⟨hr', q + lb * b ^ i, ?_, red_q hb q1 h1, by rw [hv, e]; grind, ?_⟩
  · have := Int.mul_nonneg h0 (Int.le_of_lt hp); omega
  · have e1 := red_low hb hr (Nat.le_of_lt hl) hd
    obtain ⟨t1, ht1⟩ := val_mod b (rest.drop i)
    obtain ⟨t2, ht2⟩ := val_mod b ms
    have ed : (rest.drop i).getD 0 0 = rest.getD i 0 := by rw [List.getD_eq_getElem?_getD, List.getElem?_drop, Nat.add_zero, ← List.getD_eq_getElem?_getD]
    rw [ed] at ht1
    have m1 := Int.mul_ediv_add_emod (rest.getD i 0 * mi) b
    have m2 := Int.mul_ediv_add_emod (ms.getD 0 0 * mi) b
    rw [← hlb] at m1
    rw [hmm] at m2
    generalize (rest.getD i 0 * mi) / b = u at m1
    generalize (ms.getD 0 0 * mi) / b = v at m2
    generalize hR : rest.getD i 0 = R at *
    generalize hM : ms.getD 0 0 = M0 at *
    refine ⟨t1 + t2 * lb + R * v + R - M0 * u, ?_⟩
    rw [hv, e1, ht1, ht2, Int.pow_succ]
    have e3 : lb = R * mi - b * u := by omega
    have e4 : M0 * mi = b * v + (b - 1) := by omega
    have e5 : M0 * lb = R * (b * v + (b - 1)) - b * u * M0 := by rw [← e4, e3]; grind
    have e6 : b ^ i * (R + b * t1) + (M0 + b * t2) * lb * b ^ i = b ^ i * (R + b * t1 + M0 * lb + b * t2 * lb) := by grind
    rw [e6, e5]
    grind
theorem red_end {b : Int} (hb : 1 < b) {ns ms rest r1 r : List Int} (hrn : Rng b ns) (hr2 : Rng b ms) (hc2 : Canon ms) (ha : val b ns < val b ms * b ^ ms.length) (hl : rest.length = 2 * ms.length + 1) (h : RedI b ns ms ms.length rest) (hn : NormOf (rest.drop ms.length) r1) (ht : TakenOf b r1 ms r) : RedcOf b ns ms r := by
  obtain ⟨hr, q, q0, q1, e, hd⟩ := h
  have e1 := red_low hb hr (by omega) hd
  have rr := normOf_rng hn (hr.drop ms.length)
  have rc := normOf_canon hn
  have rv : val b r1 = val b (rest.drop ms.length) := normOf_val hn
  have hp := pow_pos' (show 0 < b by omega) ms.length
  have hM := val_nonneg (show 0 < b by omega) hr2
  rw [← rv] at e1
  have hMpos : 0 < val b ms := by
    apply Classical.byContradiction
    intro hn0
    have : val b ms = 0 := by omega
    rw [this, Int.zero_mul] at ha
    have := val_nonneg (show 0 < b by omega) hrn
    omega
  have hlt2 : val b r1 < 2 * val b ms := by
    have h3 : q * val b ms < b ^ ms.length * val b ms := Int.mul_lt_mul_of_pos_right q1 hMpos
    have h4 : b ^ ms.length * val b r1 < b ^ ms.length * (2 * val b ms) := by
      have : b ^ ms.length * (2 * val b ms) = 2 * (b ^ ms.length * val b ms) := by grind
      rw [this, ← e1, e]
      rw [Int.mul_comm (val b ms)] at ha
      omega
    exact Int.lt_of_mul_lt_mul_left h4 (Int.le_of_lt hp)
  rcases ht with ⟨⟨c, hc, hc0⟩, rfl⟩ | ⟨⟨c, hc, hc0⟩, hs⟩
  · rcases cmpOf_val hb rr hr2 rc hc2 hc with ⟨_, k⟩ | ⟨k, _⟩ | ⟨k, _⟩
    · exact ⟨rr, rc, k, q, by rw [← e1, e]⟩
    · omega
    · omega
  · have hle : val b ms ≤ val b r1 := by
      rcases cmpOf_val hb rr hr2 rc hc2 hc with ⟨k, _⟩ | ⟨_, k⟩ | ⟨_, k⟩
      · omega
      · rw [k]; exact Int.le_refl _
      · omega
    have hll : ms.length ≤ r1.length := by
      apply Classical.byContradiction
      intro hn1
      have := val_len hb rr hr2 hc2 (by omega)
      omega
    obtain ⟨s1, s2, s3, _⟩ := subOf_val hb rr hr2 hle hll hs
    refine ⟨s1, s2, by omega, q - b ^ ms.length, ?_⟩
    rw [s3, Int.mul_sub, ← e1, e]
    grind
theorem RedI.rng {b : Int} {ns ms rest : List Int} {i : Nat} (h : RedI b ns ms i rest) : Rng b rest := h.1
theorem red_room' {b mi k : Int} {n : Nat} (hb : 1 < b) {ns ms rest : List Int} {i : Nat} (hr2 : Rng b ms) (ha : val b ns < val b ms * b ^ ms.length) (hbn : b = 2 ^ n) (hmi : 0 ≤ mi) (h : RedI b ns ms i rest) (hl : rest.length = 2 * ms.length + 1) (hi : i < ms.length) (hk : k = (i : Int)) :
    val b rest + val b ms * Builtin.bitAnd (rest.getD k.toNat 0 * mi) (1 * 2 ^ n - 1) * b ^ k.toNat < b ^ rest.length := by
  have ek : k.toNat = i := by omega
  obtain ⟨e, e0, e1⟩ := lb_in hbn (i := i) h.1 hmi
  rw [ek, e]
  exact red_room hb hr2 ha hl hi e0 e1 h
theorem red_start {b : Int} (hb : 1 < b) {ns ms : List Int} (hr : Rng b ns) (hal : ns.length ≤ 2 * ms.length) : (ns ++ (List.replicate (2 * (ms.length : Int) + 1 - (ns.length : Int)).toNat [(0 : Int)]).flatten).length = 2 * ms.length + 1 ∧ RedI b ns ms ([] : List Int).length (ns ++ (List.replicate (2 * (ms.length : Int) + 1 - (ns.length : Int)).toNat [(0 : Int)]).flatten) := by
  rw [flat_rep]
  exact ⟨by rw [List.length_append, List.length_replicate]; omega, redI_start hb hr _⟩
theorem red_turn' {b mi k : Int} {n : Nat} (hb : 1 < b) {ns ms rest rest' pre : List Int} (hmm : (ms.getD 0 0 * mi) % b = b - 1) (hbn : b = 2 ^ n) (hmi : 0 ≤ mi) (hl : rest.length = 2 * ms.length + 1) (hk : k = 0 + (pre.length : Int)) (hlt : pre.length < ((ms.length : Int) - 0).toNat) (h : RedI b ns ms pre.length rest)
    (hP : rest'.length = rest.length ∧ Rng b rest' ∧ val b rest' = val b rest + val b ms * Builtin.bitAnd (rest.getD k.toNat 0 * mi) (1 * 2 ^ n - 1) * b ^ k.toNat) : rest'.length = 2 * ms.length + 1 ∧ RedI b ns ms (pre ++ [k]).length rest' := by
  have ek : k.toNat = pre.length := by omega
  obtain ⟨e, e0, e1⟩ := lb_in hbn (i := pre.length) h.1 hmi
  rw [ek, e] at hP
  refine ⟨by omega, ?_⟩
  rw [List.length_append, List.length_singleton]
  exact redI_turn hb hmm (by omega) rfl e0 e1 h hP.2.1 hP.2.2
theorem none_or {g h : Heap} {L l l9 : Addr} {m : Str → Option Value} {o : Obj} {news : Led} (hor : l9 = l ∨ h.get? l9 = none) (F : Fr g L h m) (N : News g L h news) (hm : (l, o) ∈ news) : g.get? l9 = none := by
  rcases hor with q | q
  · rw [q]; exact (N _ hm).2.2
  · cases e : g.get? l9 with
    | none => rfl
    | some x => rw [F.keep _ _ e] at q; cases q
theorem red_end' {b : Int} (hb : 1 < b) {ns ms rest r1 r : List Int} (hrn : Rng b ns) (hr2 : Rng b ms) (hc2 : Canon ms) (ha : val b ns < val b ms * b ^ ms.length) (hl : rest.length = 2 * ms.length + 1) (h : RedI b ns ms (rangeKs 0 ((ms.length : Int) - 0).toNat).length rest) (hn : NormOf (rest.drop (ms.length : Int).toNat) r1) (ht : TakenOf b r1 ms r) : RedcOf b ns ms r := by
  have e : (rangeKs 0 ((ms.length : Int) - 0).toNat).length = ms.length := by rw [rangeKs_length]; omega
  rw [e] at h
  rw [Int.toNat_natCast] at hn
  exact red_end hb hrn hr2 hc2 ha hl h hn ht
theorem c_redc {w : World} {mean : ExcName → Option Value} {mg mb : Str → Option Value} {x dx la lm lo lsq : Addr} {h1 h2 h3 h4 : Int} {t1 t2 t3 t4 tm : Tok} {n : Nat} {mi wd : Int} {us us2 : List Value} {ns ms : List Int} {tw : Tok}
    (hI : IntsAre us ns) (hI2 : IntsAre us2 ms) (hm1 : 0 < ms.length) (hm2 : ms.length ≤ 100) (hal : ns.length ≤ 2 * ms.length)
    (hw : 2 ≤ wd) (hw' : wd ≤ 9) (hr : Rng (2 ^ wd.toNat) ns) (hr2 : Rng (2 ^ wd.toNat) ms) (hc : Canon ns) (hc2 : Canon ms) (hmi : 0 ≤ mi) (hmi2 : mi < 2 ^ wd.toNat)
    (hmm : (ms.getD 0 0 * mi) % 2 ^ wd.toNat = 2 ^ wd.toNat - 1) (ha : val (2 ^ wd.toNat) ns < val (2 ^ wd.toNat) ms * (2 ^ wd.toNat) ^ ms.length) :
    Claim 6 w mean mg mb 123 [.ref la, .ref x, .int wd tw] [] (fun g => isL g la us ∧ isL g lm us2 ∧ g.get? x = some (instObj 98 dx) ∧ g.get? dx = some (toldDict h1 h2 h3 h4 t1 t2 t3 t4 tm n lm lo lsq mi))
      (fun g r h' => FreshL g r h' (RedcOf (2 ^ wd.toNat) ns ms)) := by
  k_with_none
  w_top off
  walk_at "M OPEN"
  intro dp un gd cn cs L a ccd cl outer A₀ base h₀ m s Q E B F X T N hk hd hu hp hret
  walk_at "M ENTER"
  intro g L' h₁ tk hg F' N' B' X' T' hlt
  have hp1 : g.IsList la us.toArray := by rw [hg]; exact hp.1
  have hp2 : g.IsList lm us2.toArray := by rw [hg]; exact hp.2.1
  have hp3 : g.get? x = some (instObj 98 dx) := by rw [hg]; exact hp.2.2.1
  have hp4 : g.get? dx = some (toldDict h1 h2 h3 h4 t1 t2 t3 t4 tm n lm lo lsq mi) := by rw [hg]; exact hp.2.2.2
  rw [← hg] at hret
  have hb512 : (2 : Int) ^ wd.toNat ≤ 512 := pow_le512 hw hw'
  have hb1 := pow_gt1 hw
  have hmi3 : mi < 512 := by omega
  have hms0 : (0 : Int) ≤ (ms.length : Int) := Int.natCast_nonneg _
  clear hlt F X N B T hp
  try dsimp only
  k_with "call ref" =>
    refine' use_list (c_lifted ?i1 ?n1 ?a1 ?a2) ?B ?F ?X ?T ?N ?hk ?hd ?hu ?hp ?_
    case hp => is_list
    case B => k_asm
    case F => k_asm
    case X => k_asm
    case T => k_asm
    case N => k_asm
    case hk => rfl
    case hd => ktr_room
    case hu => ktr_units
    case i1 => l_ints
    case n1 => omega
    case a1 => omega
    case a2 => omega
    intro l' us' n' ns' h' tk' F' N' l1 hI' hP
    (try replace l1 := allNe_of l1)
    (try simp only [AllNe, and_true] at l1)
    rw [if_neg (by omega), Int.toNat_natCast] at hP
    have hlen' : ns'.length = ms.length + ms.length := by rw [hP, List.length_append, List.length_replicate]
    (try k_fold)
  k_with "call ref" =>
    refine' use_val (c_compare ?i1 ?i2 ?n1 ?n2) ?B ?F ?X ?T ?N ?hk ?hd ?hu ?hp ?_
    case hp => exact ⟨by is_list, by is_list⟩
    case B => k_asm
    case F => k_asm
    case X => k_asm
    case T => k_asm
    case N => k_asm
    case hk => rfl
    case hd => ktr_room
    case hu => ktr_units
    case i1 => l_ints
    case i2 => l_ints
    case n1 => omega
    case n2 => omega
    intro r h' tk' F' N' st hP
    obtain ⟨c, t, hr9, hP⟩ := hP
    subst hr9
    have hP9 := redc_cmp hb1 hr hr2 hc hc2 hm1 ha (by assumption) hP
    (try k_fold)
  k_with "call ref" =>
    refine' use_list (c_normal ?i1 ?n1) ?B ?F ?X ?T ?N ?hk ?hd ?hu ?hp ?_
    case hp => is_list
    case B => k_asm
    case F => k_asm
    case X => k_asm
    case T => k_asm
    case N => k_asm
    case hk => rfl
    case hd => ktr_room
    case hu => ktr_units
    case i1 => l_ints
    case n1 => (simp only [List.length_drop]; omega)
    intro l' us' n' ns' h' tk' F' N' l1 hI' hP
    (try replace l1 := allNe_of l1)
    (try simp only [AllNe] at l1)
    (try k_fold)
  k_with "call ref" =>
    refine' use_val (c_taken ?i1 ?i2 ?n1 ?n2 hw hw' ?r1 hr2) ?B ?F ?X ?T ?N ?hk ?hd ?hu ?hp ?_
    case hp => exact ⟨(News.get' (by k_asm) (.head _)).1, by is_list⟩
    case B => k_asm
    case F => k_asm
    case X => k_asm
    case T => k_asm
    case N => k_asm
    case hk => rfl
    case hd => ktr_room
    case hu => ktr_units
    case i1 => l_ints
    case i2 => l_ints
    case n1 => exact Nat.lt_of_le_of_lt (normOf_len (by assumption)) (by simp only [List.length_drop]; omega)
    case n2 => omega
    case r1 => exact normOf_rng (by assumption) (Rng.drop (RedI.rng (by assumption)) _)
    intro r h' tk' F' N' st hP
    obtain ⟨l9, us9, n9, ns9, hr9, hor, hget, hI9, hT⟩ := hP
    subst hr9
    (try k_fold)
  k_with "pyIter ref" => k_state (fun pre rest => rest.length = 2 * ms.length + 1 ∧ RedI (2 ^ wd.toNat) ns ms pre.length rest) "rest"
  k_with "call ref" =>
    refine' use_mutL (c_add ?i1 ?i2 ?n1 hw hw' ?r1 hr2 ?b0 ?b1 ?a0 ?al ?ht) ?U ?B ?F ?X ?T ?N ?hk ?hd ?hu ?hp ?_
    case N => k_asm
    case U => k_updF
    case hp => exact isL_hide (by k_asm) (by k_asm) (by k_mem) hp2
    case B => k_asm
    case F => k_asm
    case X => k_asm
    case T => k_asm
    case hk => rfl
    case hd => ktr_room
    case hu => ktr_units
    case i1 => l_ints
    case i2 => l_ints
    case n1 => omega
    case r1 => exact RedI.rng (by assumption)
    case b0 => exact (lb_in rfl (RedI.rng (by assumption)) hmi).1 ▸ (lb_in rfl (RedI.rng (by assumption)) hmi).2.1
    case b1 => exact (lb_in rfl (RedI.rng (by assumption)) hmi).1 ▸ (lb_in rfl (RedI.rng (by assumption)) hmi).2.2
    case a0 => omega
    case al => omega
    case ht => exact red_room' hb1 hr2 ha rfl hmi (by assumption) (by assumption) (by omega) (by omega)
    intro r us' n' ns' h' tk' F' N' hI' hP'
    (try k_fold)
  k_with "state" => k_dflt (first
    | exact red_start hb1 hr hal
    | exact red_turn' hb1 hmm rfl hmi (by assumption) (by assumption) (by assumption) (by assumption) (by assumption))
  k_steps
  exact hret _ _ _ (Fr.keep (by assumption)) ⟨l9, us9, n9, ns9, rfl, none_or hor (by assumption) (by assumption) (.head _), hget, hI9, red_end' hb1 hr hr2 hc2 ha (by assumption) (by assumption) (by assumption) hT⟩
end Mine
namespace Mine
section
variable {w : World} {s : Shared} {A₀ : Around} {base h₀ : Heap} {outer : List Env} {L : Addr} {m : Str → Option Value} {news : Led} {f : Addr} {mean : ExcName → Option Value} {mg mb : Str → Option Value}
/-- a call that changes one object and hands back anything -/
theorem use_mut {lv dp un : Nat} {gd : Option (List Code)} {cn : Str} {cs : Scope} {a d : Addr} {o : Obj} {G : Obj → Led} {ccd : Value} {cl : List (Str × Addr)} {vs : List Value} {Pre : Heap → Prop} {α : Type} {ob : α → Obj} {Post : α → Heap → Value → Heap → Prop} {Q E : Value → Shared → Prop}
    (C : Claim lv w mean mg mb f vs [(d, o)] Pre (fun g r h' => ∃ x : α, h'.get? d = some (ob x) ∧ Post x g r h')) (U : UpdF d o news G) (B : Below A₀ base outer h₀) (F : Fr h₀ L s.heap m) (X : (KK w).In h₀) (T : TT mean mg mb h₀) (N : News h₀ L s.heap news) (hk : cs.kind = .function) (hd : dp + lv < recursionLimit) (hu : un + 10 * lv < cLine)
    (hp : Pre (hideAll s.heap [d]))
    (k : ∀ r x h' tk', Fr h₀ L h' m → News h₀ L h' (G (ob x)) → Post x (hideAll s.heap [d]) r h' → Q r { s with heap := h', toks := tk' }) :
    wpAny (model PP w) (ktrTop dp un gd cn cs L a ccd cl outer) (call (.ref f) vs) Q E s := by
  obtain ⟨pre, post, rfl, hG, h1, h2⟩ := U.split
  have N1 : News h₀ L s.heap [(d, o)] := fun p hp => by
    rw [List.mem_singleton.mp hp]; exact N _ (by simp)
  refine C dp un gd cn cs L a ccd cl outer A₀ base h₀ m s Q E B F X T N1 hk hd hu hp fun r h' tk' st po => ?_
  obtain ⟨x, hl, hP⟩ := po
  obtain ⟨F', N'⟩ := fr_mut F N st hl h1 h2
  exact k r x h' tk' F' (by rw [hG]; exact N') hP
theorem isL_hideN {h : Heap} {d l : Addr} {us : List Value} {n : Nat} (N : News h₀ L h news) (hl : (l, listOf us.toArray n) ∈ news) (hd : l ≠ d) : isL (hideAll h [d]) l us :=
  ⟨_, hideAll_get _ (N _ hl).1 (by simpa using hd), rfl, n, rfl⟩
end
abbrev ropeObj (l2 : Addr) (k : Int) (x : Tok × Nat) : Obj := listOf #[.ref l2, .int k x.1] x.2
theorem c_next {w : World} {mean : ExcName → Option Value} {mg mb : Str → Option Value} {l l2 : Addr} {us2 : List Value} {ns : List Int} {n0 : Nat} {k many : Int} {tk tm : Tok} (hI : IntsAre us2 ns) (hlen : ns.length ≤ 20) (hk : 0 ≤ k) (hk2 : k < 1000) (hm : 0 < many) :
    Claim 2 w mean mg mb 137 [.ref l, .int many tm] [(l, listOf #[.ref l2, .int k tk] n0)] (fun g => isL g l2 us2)
      (fun g r h' => ∃ x : Tok × Nat, h'.get? l = some (ropeObj l2 (k + 1) x) ∧ ∃ v tv, r = .int v tv ∧ 0 ≤ v ∧ v < many) := by
  k_with_none
  w_top off
  walk_at "M OPEN"
  intro dp un gd cn cs L a ccd cl outer A₀ base h₀ m s Q E B F X T N hk hd hu hp hret
  walk_at "M ENTER"
  intro g L' h₁ tk hg F' N' B' X' T' hlt
  have hp1 : g.IsList l2 us2.toArray := by rw [hg]; exact hp
  rw [← hg] at hret
  clear hlt F X N B T hp
  try dsimp only
  k_steps
  all_goals exact hret _ _ _ (Fr.keep (by assumption)) ⟨(_, _), (News.get' (by assumption) (.head _)).1, _, _, rfl, fmod_lo _ hm, fmod_hi _ hm⟩
end Mine
namespace Mine
local macro_rules | `(tactic| k_inst) => `(tactic| exact Mine.inst_base (by k_asm) (by assumption) (by assumption))
theorem odd_of {ms : List Int} (h : (ms.length == 0 || ms.getD 0 0 % 2 == 0) = false) : 0 < ms.length ∧ ms.getD 0 0 % 2 = 1 := by
  rw [Bool.or_eq_false_iff, beq_eq_false_iff_ne, beq_eq_false_iff_ne] at h
  omega
def CheckRes (b : Int) (ms os qs : List Int) (mi : Int) (bb : Bool) : Prop :=
  (bb = false ∧ ((ms.length == 0 || ms.getD 0 0 % 2 == 0) = true ∨ ¬ 0 < mi ∨ ¬ mi < b ∨ val b ms ≤ val b qs ∨ (ms.getD 0 0 * mi) % b ≠ b - 1)) ∨
  (0 < ms.length ∧ ms.getD 0 0 % 2 = 1 ∧ (0 < mi ∧ mi < b ∧ val b qs < val b ms ∧ (ms.getD 0 0 * mi) % b = b - 1) ∧ ∃ r, RedcOf b qs ms r ∧ ((bb = false ∧ r ≠ os) ∨ (r = os ∧ ∃ r2, RedcOf b os ms r2 ∧ bb = decide (r2 = if ms = [1] then [] else [1]))))
theorem al_q {qs ms : List Int} {c : Int} (h : CmpOf qs ms c) (hn : ¬ 0 ≤ c) : qs.length ≤ 2 * ms.length := by
  rcases h with ⟨q, rfl⟩ | ⟨q, rfl⟩ | ⟨q, _⟩ <;> omega
theorem mm_of {l : List Int} {x y : Int} (h : l.take 1 = [x % y]) (h2 : l.take 1 = [1 * y - 1]) : x % y = y - 1 := by
  rw [h] at h2
  have := (List.cons.inj h2).1
  omega
theorem nm_of {l : List Int} {x y : Int} (h : l.take 1 = [x % y]) (h2 : ¬ l.take 1 = [1 * y - 1]) : x % y ≠ y - 1 := by
  intro e
  refine h2 (h.trans ?_)
  rw [e, Int.one_mul]
theorem le_mul_pow {b v : Int} (hb : 1 < b) (hv : 0 ≤ v) (k : Nat) : v ≤ v * b ^ k := by
  have := pow_pos' (show 0 < b by omega) k
  have h : v * 1 ≤ v * b ^ k := Int.mul_le_mul_of_nonneg_left (by omega) hv
  omega
theorem lt_q {b c : Int} (hb : 1 < b) {qs ms : List Int} (hq : Rng b qs) (hm : Rng b ms) (cq : Canon qs) (cm : Canon ms) (h : CmpOf qs ms c) (hn : ¬ 0 ≤ c) : val b qs < val b ms := by
  rcases cmpOf_val hb hq hm cq cm h with ⟨_, k⟩ | ⟨k, _⟩ | ⟨k, _⟩
  · exact k
  · omega
  · omega
theorem ge_q {b c : Int} (hb : 1 < b) {qs ms : List Int} (hq : Rng b qs) (hm : Rng b ms) (cq : Canon qs) (cm : Canon ms) (h : CmpOf qs ms c) (hn : 0 ≤ c) : val b ms ≤ val b qs := by
  rcases cmpOf_val hb hq hm cq cm h with ⟨k, _⟩ | ⟨_, k⟩ | ⟨_, k⟩
  · omega
  · rw [k]; exact Int.le_refl _
  · omega
theorem ha_q {b c : Int} (hb : 1 < b) {qs ms : List Int} (hq : Rng b qs) (hm : Rng b ms) (cq : Canon qs) (cm : Canon ms) (h : CmpOf qs ms c) (hn : ¬ 0 ≤ c) : val b qs < val b ms * b ^ ms.length :=
  Int.lt_of_lt_of_le (lt_q hb hq hm cq cm h hn) (le_mul_pow hb (val_nonneg (by omega) hm) _)
theorem ha_o {b : Int} (hb : 1 < b) {qs ms r os : List Int} (hm : Rng b ms) (h : RedcOf b qs ms r) (e : r = os) : val b os < val b ms * b ^ ms.length := by
  rw [← e]
  exact Int.lt_of_lt_of_le h.2.2.1 (le_mul_pow hb (val_nonneg (by omega) hm) _)
theorem al_o {b : Int} (hb : 1 < b) {qs ms r os : List Int} (ho : Rng b os) (hm : Rng b ms) (co : Canon os) (cm : Canon ms) (h : RedcOf b qs ms r) (e : r = os) : os.length ≤ 2 * ms.length := by
  subst e
  apply Classical.byContradiction
  intro hn
  have := val_len hb hm ho co (show ms.length < r.length by omega)
  have := h.2.2.1
  omega
theorem c_check {w : World} {mean : ExcName → Option Value} {mg mb : Str → Option Value} {x dx lm lo lsq : Addr} {h1 h2 h3 h4 : Int} {t1 t2 t3 t4 tm : Tok} {n : Nat} {mi wd : Int} {us usO usQ : List Value} {ms os qs : List Int} {tw : Tok}
    (hI : IntsAre us ms) (hIo : IntsAre usO os) (hIq : IntsAre usQ qs) (hm2 : ms.length ≤ 100) (ho2 : os.length ≤ 100) (hq2 : qs.length ≤ 100)
    (hw : 2 ≤ wd) (hw' : wd ≤ 9) (hr : Rng (2 ^ wd.toNat) ms) (hro : Rng (2 ^ wd.toNat) os) (hrq : Rng (2 ^ wd.toNat) qs) (hc : Canon ms) (hco : Canon os) (hcq : Canon qs) (hmi : 0 ≤ mi) (hmi2 : mi < 2048) :
    Claim 8 w mean mg mb 130 [.ref x, .int wd tw] [] (fun g => isL g lm us ∧ isL g lo usO ∧ isL g lsq usQ ∧ g.get? x = some (instObj 98 dx) ∧ g.get? dx = some (toldDict h1 h2 h3 h4 t1 t2 t3 t4 tm n lm lo lsq mi))
      (fun g r h' => ∃ bb, r = .bool bb ∧ CheckRes (2 ^ wd.toNat) ms os qs mi bb) := by
  k_with_none
  w_top off
  walk_at "M OPEN"
  intro dp un gd cn cs L a ccd cl outer A₀ base h₀ m s Q E B F X T N hk hd hu hp hret
  walk_at "M ENTER"
  intro g L' h₁ tk hg F' N' B' X' T' hlt
  have hp1 : g.IsList lm us.toArray := by rw [hg]; exact hp.1
  have hp2 : g.IsList lo usO.toArray := by rw [hg]; exact hp.2.1
  have hp3 : g.IsList lsq usQ.toArray := by rw [hg]; exact hp.2.2.1
  have hp4 : g.get? x = some (instObj 98 dx) := by rw [hg]; exact hp.2.2.2.1
  have hp5 : g.get? dx = some (toldDict h1 h2 h3 h4 t1 t2 t3 t4 tm n lm lo lsq mi) := by rw [hg]; exact hp.2.2.2.2
  rw [← hg] at hret
  have hb512 : (2 : Int) ^ wd.toNat ≤ 512 := pow_le512 hw hw'
  have hb1 := pow_gt1 hw
  have hm0 := hr.getD (by omega) 0
  clear hlt F X N B T hp
  try dsimp only
  k_with "call ref" =>
    refine' use_val (c_even ?i1 ?n1) ?B ?F ?X ?T ?N ?hk ?hd ?hu ?hp ?_
    case hp => is_list
    case B => k_asm
    case F => k_asm
    case X => k_asm
    case T => k_asm
    case N => k_asm
    case hk => rfl
    case hd => ktr_room
    case hu => ktr_units
    case i1 => l_ints
    case n1 => omega
    intro r h' tk' F' N' st hP
    subst hP
    cases hev : (ms.length == 0 || ms.getD 0 0 % 2 == 0)
    all_goals (try (have hev9 := odd_of hev; obtain ⟨hev1, hev2⟩ := hev9))
    all_goals (try k_fold)
  k_with "call ref" =>
    refine' use_val (c_compare ?i1 ?i2 ?n1 ?n2) ?B ?F ?X ?T ?N ?hk ?hd ?hu ?hp ?_
    case hp => exact ⟨by is_list, by is_list⟩
    case B => k_asm
    case F => k_asm
    case X => k_asm
    case T => k_asm
    case N => k_asm
    case hk => rfl
    case hd => ktr_room
    case hu => ktr_units
    case i1 => l_ints
    case i2 => l_ints
    case n1 => omega
    case n2 => omega
    intro r h' tk' F' N' st hP
    obtain ⟨c, t, hr9, hP⟩ := hP
    subst hr9
    (try k_fold)
  k_with "call ref" =>
    refine' use_list (c_mul1 ?i1 hw hw' ?a1 ?a2 ?a3 ?a4) ?B ?F ?X ?T ?N ?hk ?hd ?hu ?hp ?_
    case hp => is_list
    case B => k_asm
    case F => k_asm
    case X => k_asm
    case T => k_asm
    case N => k_asm
    case hk => rfl
    case hd => ktr_room
    case hu => ktr_units
    case i1 => l_ints
    case a1 => exact hm0.1
    case a2 => exact Int.lt_of_lt_of_le hm0.2 hb512
    case a3 => assumption
    case a4 => omega
    intro l' us' n' ns' h' tk' F' N' l1 hI' hP
    (try replace l1 := allNe_of l1)
    (try simp only [AllNe] at l1)
    obtain ⟨hP2, hP1⟩ := hP
    (try k_fold)
  k_with "call ref" =>
    refine' use_list (c_redc (x := x) (dx := dx) (lm := lm) (lo := lo) (lsq := lsq) (h1 := h1) (h2 := h2) (h3 := h3) (h4 := h4) (t1 := t1) (t2 := t2) (t3 := t3) (t4 := t4) (tm := tm) (n := n) (mi := mi) ?i1 hI ?m1 hm2 ?al hw hw' ?r1 hr ?c1 hc ?b0 ?b1 ?mm ?ha) ?B ?F ?X ?T ?N ?hk ?hd ?hu ?hp ?_
    case hp => exact ⟨by is_list, by is_list, Fr.keep (by k_asm) _ _ hp4, Fr.keep (by k_asm) _ _ hp5⟩
    case B => k_asm
    case F => k_asm
    case X => k_asm
    case T => k_asm
    case N => k_asm
    case hk => rfl
    case hd => ktr_room
    case hu => ktr_units
    case i1 => l_ints
    case m1 => omega
    case al => (first | exact al_q (by assumption) (by assumption) | exact al_o hb1 hro hr hco hc (by assumption) (by assumption))
    case r1 => assumption
    case c1 => assumption
    case b0 => omega
    case b1 => omega
    case mm => exact mm_of (by assumption) (by assumption)
    case ha => (first | exact ha_q hb1 hrq hr hcq hc (by assumption) (by assumption) | exact ha_o hb1 hr (by assumption) (by assumption))
    intro l' us' n' ns' h' tk' F' N' l1 hI' hP
    (try replace l1 := allNe_of l1)
    (try simp only [AllNe] at l1)
    (try k_fold)
  k_steps
  all_goals (try dsimp only)
  · exact hret _ _ _ (Fr.keep (by assumption)) ⟨_, rfl, .inl ⟨rfl, .inr (.inr (.inr (.inl (ge_q hb1 hrq hr hcq hc (by assumption) (by assumption)))))⟩⟩
  · refine hret _ _ _ (Fr.keep (by assumption)) ⟨_, rfl, .inr ⟨hev1, hev2, ⟨by assumption, by omega, lt_q hb1 hrq hr hcq hc (by assumption) (by assumption), mm_of (by assumption) (by assumption)⟩, _, by assumption, .inr ⟨by assumption, _, by assumption, ?_⟩⟩⟩
    rw [if_pos (by assumption)]
  · refine hret _ _ _ (Fr.keep (by assumption)) ⟨_, rfl, .inr ⟨hev1, hev2, ⟨by assumption, by omega, lt_q hb1 hrq hr hcq hc (by assumption) (by assumption), mm_of (by assumption) (by assumption)⟩, _, by assumption, .inr ⟨by assumption, _, by assumption, ?_⟩⟩⟩
    rw [if_neg (by assumption)]
  · exact hret _ _ _ (Fr.keep (by assumption)) ⟨_, rfl, .inr ⟨hev1, hev2, ⟨by assumption, by omega, lt_q hb1 hrq hr hcq hc (by assumption) (by assumption), mm_of (by assumption) (by assumption)⟩, _, by assumption, .inl ⟨decide_eq_false (by assumption), by assumption⟩⟩⟩
  · exact hret _ _ _ (Fr.keep (by assumption)) ⟨_, rfl, .inl ⟨rfl, .inr (.inr (.inr (.inr (nm_of (by assumption) (by assumption)))))⟩⟩
  · exact hret _ _ _ (Fr.keep (by assumption)) ⟨_, rfl, .inl ⟨rfl, .inr (.inr (.inl (by omega)))⟩⟩
  · exact hret _ _ _ (Fr.keep (by assumption)) ⟨_, rfl, .inl ⟨rfl, .inr (.inl (by assumption))⟩⟩
  · exact hret _ _ _ (Fr.keep (by assumption)) ⟨_, rfl, .inl ⟨rfl, .inl hev⟩⟩
end Mine
namespace Mine
def BentOf (b m size form mi on sq a1 a2 a3 : Int) : Prop :=
  (form = 1 ∧ 0 ≤ a1 ∧ a1 < b ∧ a2 = on ∧ a3 = sq) ∨ (form = 2 ∧ a1 = mi + b ∧ a2 = on ∧ a3 = sq) ∨ (form = 3 ∧ a1 = 0 ∧ a2 = on ∧ a3 = sq) ∨
  (form = 4 ∧ a1 = mi ∧ 0 ≤ a2 ∧ a2 < m ∧ a3 = sq) ∨ (form = 5 ∧ a1 = mi ∧ a2 = on + m ∧ a3 = sq) ∨ (form = 6 ∧ a1 = mi ∧ a2 = on ∧ 0 ≤ a3 ∧ a3 < m) ∨
  (form < 9 ∧ a1 = mi ∧ a2 = on ∧ (a3 = sq + m ∨ a3 = sq + m * size)) ∨ (form = 9 ∧ a1 = mi ∧ a2 = sq ∧ a3 = on) ∨ (9 < form ∧ a1 = mi ∧ a2 = on ∧ a3 = sq)
abbrev tup3 (a1 a2 a3 : Int) (x : Tok × Tok × Tok) : Obj := { cls := .type "tuple", data := .seq #[.int a1 x.1, .int a2 x.2.1, .int a3 x.2.2] }
def BentPost (l l2 lr : Addr) (b m size form mi on sq : Int) (g : Heap) (r : Value) (h' : Heap) : Prop :=
  ∃ x : Int × Tok × Nat, h'.get? l = some (ropeObj l2 x.1 x.2) ∧ ∃ lt a1 a2 a3, r = .ref lt ∧ BentOf b m size form mi on sq a1 a2 a3 ∧
        ((lt = lr ∧ a1 = mi ∧ a2 = on ∧ a3 = sq) ∨ (g.get? lt = none ∧ ∃ t, h'.get? lt = some (tup3 a1 a2 a3 t)))
theorem bent_new {g h : Heap} {L : Addr} {news : Led} {l l2 lr lt : Addr} {b m size form mi on sq a1 a2 a3 k' : Int} {tk' t1 t2 t3 : Tok} {n' : Nat} (N : News g L h news) (hl : (l, listOf #[.ref l2, .int k' tk'] n') ∈ news)
    (hd : (lt, ({ cls := .type "tuple", data := .seq #[.int a1 t1, .int a2 t2, .int a3 t3] } : Obj)) ∈ news) (hB : BentOf b m size form mi on sq a1 a2 a3) : BentPost l l2 lr b m size form mi on sq g (.ref lt) h :=
  ⟨(k', tk', n'), (N _ hl).1, lt, a1, a2, a3, rfl, hB, .inr ⟨(N _ hd).2.2, (t1, t2, t3), (N _ hd).1⟩⟩
theorem bent_old {g h : Heap} {L : Addr} {news : Led} {l l2 lr : Addr} {b m size form mi on sq k' : Int} {tk' : Tok} {n' : Nat} (N : News g L h news) (hl : (l, listOf #[.ref l2, .int k' tk'] n') ∈ news)
    (hB : BentOf b m size form mi on sq mi on sq) : BentPost l l2 lr b m size form mi on sq g (.ref lr) h :=
  ⟨(k', tk', n'), (N _ hl).1, lr, mi, on, sq, rfl, hB, .inl ⟨rfl, rfl, rfl, rfl⟩⟩
theorem c_bent {w : World} {mean : ExcName → Option Value} {mg mb : Str → Option Value} {l l2 lr : Addr} {us2 : List Value} {ns : List Int} {n0 : Nat} {k form m size wd mi on sq : Int} {tk tf tm ts tw t1 t2 t3 : Tok} (hI : IntsAre us2 ns) (hlen : ns.length ≤ 20) (hk0 : 0 ≤ k) (hk2 : k < 900) (hm : 0 < m) (hf0 : 0 ≤ form) (hf : form < 13) (hw : 2 ≤ wd) (hw' : wd ≤ 9) (hmh : m < 2 ^ 40) (hs0 : 0 ≤ size) (hs : size < 2 ^ 40) :
    Claim 4 w mean mg mb 151 [.ref l, .int form tf, .int m tm, .int size ts, .int wd tw, .ref lr] [(l, listOf #[.ref l2, .int k tk] n0)] (fun g => isL g l2 us2 ∧ IsTup g lr #[.int mi t1, .int on t2, .int sq t3])
      (fun g r h' => BentPost l l2 lr (2 ^ wd.toNat) m size form mi on sq g r h') := by
  k_with_none
  w_top off
  walk_at "M OPEN"
  intro dp un gd cn cs L a ccd cl outer A₀ base h₀ m s Q E B F X T N hk hd hu hp hret
  walk_at "M ENTER"
  intro g L' h₁ tk hg F' N' B' X' T' hlt
  have hp1 : g.IsList l2 us2.toArray := by rw [hg]; exact hp.1
  have hp2 : IsTup g lr #[.int mi t1, .int on t2, .int sq t3] := by rw [hg]; exact hp.2
  rw [← hg] at hret
  have hb0 : (0 : Int) < 2 ^ wd.toNat := Int.pow_pos (by decide)
  clear hlt F X N B T hp
  try dsimp only
  k_with "call ref" =>
    refine' use_mut (c_next ?i1 hlen hk0 ?n1 ?n2) ?U ?B ?F ?X ?T ?N ?hk ?hd ?hu ?hp ?_
    case N => k_asm
    case U => k_updF
    case hp => exact isL_hide (by k_asm) (by k_asm) (by k_mem) hp1
    case B => k_asm
    case F => k_asm
    case X => k_asm
    case T => k_asm
    case hk => rfl
    case hd => ktr_room
    case hu => ktr_units
    case i1 => l_ints
    case n1 => omega
    case n2 => (first | assumption | omega)
    intro r x h' tk' F' N' hP
    obtain ⟨v, tv, hr9, hv0, hv1⟩ := hP
    subst hr9
    (try k_fold)
  k_steps
  all_goals (try dsimp only)
  · exact hret _ _ _ (Fr.keep (by assumption)) (bent_new (by assumption) (.tail _ (.head _)) (.head _) (.inl ⟨by assumption, by assumption, by assumption, rfl, rfl⟩))
  · exact hret _ _ _ (Fr.keep (by assumption)) (bent_new (by assumption) (.tail _ (.head _)) (.head _) (.inr (.inl ⟨by assumption, rfl, rfl, rfl⟩)))
  · exact hret _ _ _ (Fr.keep (by assumption)) (bent_new (by assumption) (.tail _ (.head _)) (.head _) (.inr (.inr (.inl ⟨by assumption, rfl, rfl, rfl⟩))))
  · exact hret _ _ _ (Fr.keep (by assumption)) (bent_new (by assumption) (.tail _ (.head _)) (.head _) (.inr (.inr (.inr (.inl ⟨by assumption, rfl, by assumption, by assumption, rfl⟩)))))
  · exact hret _ _ _ (Fr.keep (by assumption)) (bent_new (by assumption) (.tail _ (.head _)) (.head _) (.inr (.inr (.inr (.inr (.inl ⟨by assumption, rfl, rfl, rfl⟩))))))
  · exact hret _ _ _ (Fr.keep (by assumption)) (bent_new (by assumption) (.tail _ (.head _)) (.head _) (.inr (.inr (.inr (.inr (.inr (.inl ⟨by assumption, rfl, rfl, by assumption, by assumption⟩)))))))
  · exact hret _ _ _ (Fr.keep (by assumption)) (bent_new (by assumption) (.tail _ (.head _)) (.head _) (.inr (.inr (.inr (.inr (.inr (.inr (.inl ⟨by assumption, rfl, rfl, .inl rfl⟩))))))))
  · exact hret _ _ _ (Fr.keep (by assumption)) (bent_new (by assumption) (.tail _ (.head _)) (.head _) (.inr (.inr (.inr (.inr (.inr (.inr (.inl ⟨by assumption, rfl, rfl, .inr rfl⟩))))))))
  · exact hret _ _ _ (Fr.keep (by assumption)) (bent_new (by assumption) (.tail _ (.head _)) (.head _) (.inr (.inr (.inr (.inr (.inr (.inr (.inr (.inl ⟨by assumption, rfl, rfl, rfl⟩)))))))))
  · exact hret _ _ _ (Fr.keep (by assumption)) (bent_old (by assumption) (.head _) (.inr (.inr (.inr (.inr (.inr (.inr (.inr (.inr ⟨by omega, rfl, rfl, rfl⟩)))))))))
section
variable {w : World} {s : Shared} {A₀ : Around} {base h₀ : Heap} {outer : List Env} {L : Addr} {m : Str → Option Value} {news : Led} {f : Addr} {mean : ExcName → Option Value} {mg mb : Str → Option Value}
theorem use_bent {lv dp un : Nat} {gd : Option (List Code)} {cn : Str} {cs : Scope} {a l l2 lr : Addr} {o : Obj} {G : Obj → Led} {b mm size form mi on sq : Int} {t1 t2 t3 : Tok} {ccd : Value} {cl : List (Str × Addr)} {vs : List Value} {Pre : Heap → Prop} {Q E : Value → Shared → Prop}
    (C : Claim lv w mean mg mb f vs [(l, o)] Pre (fun g r h' => BentPost l l2 lr b mm size form mi on sq g r h')) (U : UpdF l o news G) (B : Below A₀ base outer h₀) (F : Fr h₀ L s.heap m) (X : (KK w).In h₀) (T : TT mean mg mb h₀) (N : News h₀ L s.heap news) (hr : (lr, tup3 mi on sq (t1, t2, t3)) ∈ news) (hrl : @Ne Nat lr l)
    (hk : cs.kind = .function) (hd : dp + lv < recursionLimit) (hu : un + 10 * lv < cLine) (hp : Pre (hideAll s.heap [l]))
    (k : ∀ (k2 : Int) (tk2 : Tok) (n2 : Nat) (t4 t5 t6 : Tok) (lt : Addr) (a1 a2 a3 : Int) h' tk', Fr h₀ L h' m → News h₀ L h' ((lt, tup3 a1 a2 a3 (t4, t5, t6)) :: G (ropeObj l2 k2 (tk2, n2))) → BentOf b mm size form mi on sq a1 a2 a3 → Q (.ref lt) { s with heap := h', toks := tk' }) :
    wpAny (model PP w) (ktrTop dp un gd cn cs L a ccd cl outer) (call (.ref f) vs) Q E s := by
  obtain ⟨pre, post, hns, hG, h1, h2⟩ := U.split
  have NL : L ≠ l := by
    have := (N (l, o) (by rw [hns]; simp)).2.1
    exact fun e => this e.symm
  have h0l : h₀.get? l = none := (N (l, o) (by rw [hns]; simp)).2.2
  refine use_mut (ob := fun x : Int × Tok × Nat => ropeObj l2 x.1 x.2) (Post := fun _ g r h' => ∃ lt a1 a2 a3, r = .ref lt ∧ BentOf b mm size form mi on sq a1 a2 a3 ∧
        ((lt = lr ∧ a1 = mi ∧ a2 = on ∧ a3 = sq) ∨ (g.get? lt = none ∧ ∃ t, h'.get? lt = some (tup3 a1 a2 a3 t)))) C U B F X T N hk hd hu hp fun r x h' tk' F' N' hP => ?_
  obtain ⟨lt, a1, a2, a3, rfl, hB, hP⟩ := hP
  rcases hP with ⟨rfl, rfl, rfl, rfl⟩ | ⟨hn, ⟨t4, t5, t6⟩, ht⟩
  · refine k x.1 x.2.1 x.2.2 t1 t2 t3 _ _ _ _ h' tk' F' (fun p hp => ?_) hB
    rcases List.mem_cons.mp hp with rfl | hp
    · refine N' _ ?_
      rw [hG]
      rw [hns] at hr
      rcases List.mem_append.mp hr with q | q
      · exact List.mem_append_left _ q
      · rcases List.mem_cons.mp q with q | q
        · exact absurd (congrArg Prod.fst q) hrl
        · exact List.mem_append_right _ (.tail _ q)
    · exact N' p hp
  · refine k x.1 x.2.1 x.2.2 t4 t5 t6 lt _ _ _ h' tk' F' (fun p hp => ?_) hB
    rcases List.mem_cons.mp hp with rfl | hp
    · refine ⟨ht, fun e => ?_, ?_⟩
      · obtain ⟨oL, es, ep, hL, _⟩ := F.ns
        have e : lt = L := e
        have := hideAll_get [l] hL (by simpa using NL)
        rw [← e, hn] at this; cases this
      · show h₀.get? lt = none
        cases q : h₀.get? lt with
        | none => rfl
        | some o' =>
          have hne : lt ≠ l := fun e => by rw [e, h0l] at q; cases q
          have := hideAll_get [l] (F.keep _ _ q) (by simpa using hne)
          rw [hn] at this; cases this
    · exact N' p hp
end
end Mine
namespace Mine
theorem odd_dvd {m z : Int} (hm : m % 2 = 1) : ∀ k : Nat, m ∣ 2 ^ k * z → m ∣ z
  | 0, h => by simpa using h
  | k + 1, h => by
    refine odd_dvd hm k ?_
    obtain ⟨c, hc⟩ := h
    have h1 : 2 * (2 ^ k * z) = m * c := by rw [← hc, Int.pow_succ]; grind
    have h2 : c % 2 = 0 := by
      have h3 : (m * c) % 2 = 0 := by rw [← h1]; omega
      rw [Int.mul_emod, hm] at h3
      omega
    refine ⟨c / 2, ?_⟩
    have h4 : c = 2 * (c / 2) := by omega
    have h5 : 2 * (2 ^ k * z) = 2 * (m * (c / 2)) := by rw [h1]; conv => lhs; rw [h4]
                                                        grind
    omega
theorem dvd_odd {s : Int} (hs : s % 2 = 1) : ∀ (k : Nat) {z : Int}, (2 : Int) ^ k ∣ s * z → (2 : Int) ^ k ∣ z
  | 0, z, _ => by simp
  | k + 1, z, h => by
    obtain ⟨c, hc⟩ := h
    have h1 : s * z = 2 * (2 ^ k * c) := by rw [hc, Int.pow_succ]; grind
    have h2 : z % 2 = 0 := by
      have h3 : (s * z) % 2 = 0 := by rw [h1]; omega
      rw [Int.mul_emod, hs] at h3
      omega
    have h4 : z = 2 * (z / 2) := by omega
    have h5 : 2 * (s * (z / 2)) = 2 * (2 ^ k * c) := by rw [← h1]; conv => rhs; rw [h4]
                                                        grind
    obtain ⟨d, hd⟩ := dvd_odd hs k (z := z / 2) ⟨c, by omega⟩
    refine ⟨d, ?_⟩
    rw [h4, hd, Int.pow_succ]; grind
/-- an odd number has a limb that undoes it -/
theorem inv_ex {m : Int} (hm : m % 2 = 1) : ∀ k : Nat, ∃ x : Int, 0 ≤ x ∧ x < 2 ^ k ∧ (x * m + 1) % 2 ^ k = 0
  | 0 => ⟨0, by simp, by simp, by simp⟩
  | k + 1 => by
    obtain ⟨x, h0, h1, h2⟩ := inv_ex hm k
    obtain ⟨c, hc⟩ := Int.dvd_of_emod_eq_zero h2
    have hp : (0 : Int) < 2 ^ k := Int.pow_pos (by decide)
    by_cases q : c % 2 = 0
    · refine ⟨x, h0, by rw [Int.pow_succ]; omega, Int.emod_eq_zero_of_dvd ⟨c / 2, ?_⟩⟩
      have h4 : c = 2 * (c / 2) := by omega
      rw [hc, Int.pow_succ]; conv => lhs; rw [h4]
      grind
    · refine ⟨x + 2 ^ k, by omega, by rw [Int.pow_succ]; omega, Int.emod_eq_zero_of_dvd ⟨(c + m) / 2, ?_⟩⟩
      have h4 : c + m = 2 * ((c + m) / 2) := by omega
      have h5 : (x + 2 ^ k) * m + 1 = 2 ^ k * (c + m) := by rw [Int.mul_add, ← hc]; grind
      rw [h5, Int.pow_succ]; conv => lhs; rw [h4]
      grind
theorem val_low (b : Int) (ms : List Int) : ∃ c, val b ms = ms.getD 0 0 + b * c := by
  cases ms with
  | nil => exact ⟨0, by simp [val]⟩
  | cons x r => exact ⟨val b r, rfl⟩
theorem pow_rows {wd : Int} (hw : 0 ≤ wd) (n : Nat) : ((2 : Int) ^ wd.toNat) ^ n = 2 ^ (wd * (n : Int)).toNat := by
  rw [← Int.pow_mul]; congr 1
  have h8 : wd * (n : Int) = ((wd.toNat * n : Nat) : Int) := by
    rw [Int.natCast_mul]; congr 1; omega
  rw [h8]; rfl
theorem redc_mod {b m x y a n : Int} {k : Nat} (hm : m % 2 = 1) (hm0 : 0 < m) (hb : b = 2 ^ k) {r : Int} (hr : 0 ≤ r) (hr2 : r < m) (h : b * r = a + n * m) (hx : a % m = (b * x) % m) (hx0 : 0 ≤ x) (hx1 : x < m) : r = x := by
  have h1 : m ∣ 2 ^ k * (r - x) := by
    rw [← hb]
    have h2 : (b * (r - x)) % m = 0 := by
      have : b * (r - x) = a - b * x + m * n := by rw [Int.mul_sub, h]; grind
      rw [this, Int.add_mul_emod_self_left, Int.sub_emod, hx, Int.sub_self]; simp
    exact Int.dvd_of_emod_eq_zero h2
  obtain ⟨c, hc⟩ := odd_dvd hm k h1
  have h3 : c = 0 := by
    rcases Int.lt_trichotomy c 0 with q | q | q
    · have : m * c ≤ m * (-1) := Int.mul_le_mul_of_nonneg_left (by omega) (by omega)
      omega
    · exact q
    · have : m * 1 ≤ m * c := Int.mul_le_mul_of_nonneg_left (by omega) (by omega)
      omega
  rw [h3] at hc
  omega
theorem minus_uniq {b s x y : Int} {k : Nat} (hb : b = 2 ^ k) (hs : s % 2 = 1) (hx0 : 0 ≤ x) (hx1 : x < b) (hy0 : 0 ≤ y) (hy1 : y < b) (hx : (s * x) % b = b - 1) (hy : (s * y) % b = b - 1) : x = y := by
  have h1 : (2 : Int) ^ k ∣ s * (x - y) := by
    rw [← hb]
    apply Int.dvd_of_emod_eq_zero
    rw [Int.mul_sub, Int.sub_emod, hx, hy, Int.sub_self]; simp
  obtain ⟨c, hc⟩ := dvd_odd hs k h1
  rw [← hb] at hc
  have h3 : c = 0 := by
    rcases Int.lt_trichotomy c 0 with q | q | q
    · have : b * c ≤ b * (-1) := Int.mul_le_mul_of_nonneg_left (by omega) (by omega)
      omega
    · exact q
    · have : b * 1 ≤ b * c := Int.mul_le_mul_of_nonneg_left (by omega) (by omega)
      omega
  rw [h3] at hc
  omega
theorem minus_ok {b m s x c : Int} (hb : 1 < b) (hm : m = s + b * c) (h : (x * m + 1) % b = 0) (h0 : 0 ≤ x) : 0 < x ∧ (s * x) % b = b - 1 := by
  have e : x * m + 1 = (s * x + 1) + b * (c * x) := by rw [hm]; grind
  rw [e, Int.add_mul_emod_self_left] at h
  have h1 := Int.emod_nonneg (s * x) (show b ≠ 0 by omega)
  have h2 := Int.emod_lt_of_pos (s * x) (show 0 < b by omega)
  have h3 : ((s * x) % b + 1) % b = 0 := by
    rw [← h, Int.add_emod (s * x) 1 b, Int.add_emod ((s * x) % b) 1 b, Int.emod_emod_of_dvd _ (Int.dvd_refl b)]
  refine ⟨?_, ?_⟩
  · apply Classical.byContradiction
    intro q
    have : x = 0 := by omega
    subst this
    rw [Int.mul_zero, Int.zero_add, Int.emod_eq_of_lt (by omega) hb] at h
    omega
  · apply Classical.byContradiction
    intro q
    rw [Int.emod_eq_of_lt (by omega) (by omega)] at h3
    omega
theorem val_two {b : Int} {ms : List Int} {k : Nat} (hk : 0 < k) (hb : b = 2 ^ k) : val b ms % 2 = ms.getD 0 0 % 2 := by
  obtain ⟨c, hc⟩ := val_low b ms
  obtain ⟨j, rfl⟩ := Nat.exists_eq_add_of_le hk
  have : b = 2 * 2 ^ j := by rw [hb, Nat.add_comm, Int.pow_succ]; grind
  rw [hc, this]
  have e : ms.getD 0 0 + 2 * 2 ^ j * c = ms.getD 0 0 + 2 * (2 ^ j * c) := by grind
  rw [e, Int.add_mul_emod_self_left]
/-- the one's row -/
theorem one_row {b m : Int} (hb : 1 < b) (hm : 0 < m) {ms r : List Int} (h1 : Rng b ms) (h2 : Canon ms) (h3 : val b ms = m) (k1 : Rng b r) (k2 : Canon r) (hr : val b r < m) : (r = if ms = [1] then [] else [1]) ↔ val b r = 1 % m := by
  have c1 : Canon [1] := fun _ => by simp
  have r1 : Rng b [1] := Rng.one (by decide) hb
  by_cases q : ms = [1]
  · rw [if_pos q]
    subst q
    rw [val_one] at h3
    subst h3
    constructor
    · rintro rfl; rfl
    · intro h
      exact val_uniq hb k1 (fun _ h => nomatch h) k2 (fun h => absurd h (by simp)) (by rw [h]; rfl)
  · rw [if_neg q]
    have hm1 : m ≠ 1 := fun e => q (val_uniq hb h1 r1 h2 c1 (by rw [h3, e, val_one]))
    have e1 : (1 : Int) % m = 1 := Int.emod_eq_of_lt (by decide) (by omega)
    rw [e1]
    constructor
    · rintro rfl; exact val_one _ _
    · intro h
      exact val_uniq hb k1 r1 k2 c1 (by rw [h, val_one])
theorem check_right {wd b m R mi0 a1 a2 a3 mo : Int} {ms' os qs : List Int} {bb : Bool} {n : Nat} (hw : 2 ≤ wd) (hb : b = 2 ^ wd.toNat) (hb1 : 1 < b) (hm0 : 0 < m) (hm : m % 2 = 1)
    (hR : ∀ ms : List Int, Rng b ms → Canon ms → val b ms = m → R = b ^ ms.length) (hi0 : 0 ≤ mi0) (hi1 : mi0 < b) (hi : (mi0 * m + 1) % b = 0) (hmo : mo = m ∨ mo % 2 = 0)
    (h1 : Rng b ms') (h2 : Canon ms') (h3 : val b ms' = mo) (o1 : Rng b os) (o2 : Canon os) (o3 : val b os = a2) (q1 : Rng b qs) (q2 : Canon qs) (q3 : val b qs = a3) (h : CheckRes b ms' os qs a1 bb) :
    bb = true ↔ (mo = m ∧ a1 = mi0 ∧ a2 = R % m ∧ a3 = (R * R) % m) := by
  have hk : 0 < wd.toNat := by omega
  have hpar := val_two (ms := ms') hk hb
  obtain ⟨c, hc⟩ := val_low b ms'
  rcases hmo with hmo | hmo
  · subst hmo
    have hRb := hR ms' h1 h2 h3
    have hRk : R = 2 ^ (wd.toNat * ms'.length) := by rw [hRb, hb, Int.pow_mul]
    obtain ⟨i2, i3⟩ := minus_ok (s := ms'.getD 0 0) hb1 (by rw [← h3]; exact hc) hi hi0
    have hon0 := Int.emod_nonneg R (show mo ≠ 0 by omega)
    have hon1 := Int.emod_lt_of_pos R hm0
    have hsq0 := Int.emod_nonneg (R * R) (show mo ≠ 0 by omega)
    have hsq1 := Int.emod_lt_of_pos (R * R) hm0
    have hu0 := Int.emod_nonneg 1 (show mo ≠ 0 by omega)
    have hu1 := Int.emod_lt_of_pos 1 hm0
    have es : (R * R) % mo % mo = (R * (R % mo)) % mo := by
      rw [Int.emod_emod_of_dvd _ (Int.dvd_refl _), Int.mul_emod R (R % mo), Int.emod_emod_of_dvd _ (Int.dvd_refl _), ← Int.mul_emod]
    have eo : R % mo % mo = (R * (1 % mo)) % mo := by
      rw [Int.emod_emod_of_dvd _ (Int.dvd_refl _), Int.mul_emod R (1 % mo), Int.emod_emod_of_dvd _ (Int.dvd_refl _), ← Int.mul_emod, Int.mul_one]
    rcases h with ⟨hbb, hf⟩ | ⟨l1, l2, ⟨l3, l4, l5, l6⟩, r, hr, hs⟩
    · subst hbb
      refine ⟨fun e => (nomatch e), ?_⟩
      rintro ⟨-, e1, e2, e3⟩
      subst e1
      rcases hf with f | f | f | f | f
      · rw [Bool.or_eq_true, beq_iff_eq, beq_iff_eq] at f
        rcases f with f | f
        · rw [List.length_eq_zero_iff] at f
          subst f
          have : val b [] = 0 := rfl
          omega
        · omega
      · exact absurd i2 f
      · exact absurd hi1 f
      · omega
      · exact absurd i3 f
    · obtain ⟨r1, r2, r3, q, hq⟩ := hr
      rw [h3, ← hRb, q3] at hq
      rw [h3] at r3 l5
      have r0 := val_nonneg (by omega) r1
      rcases hs with ⟨hbb, hne⟩ | ⟨he, t, ht, hbb⟩
      · subst hbb
        refine ⟨fun e => (nomatch e), ?_⟩
        rintro ⟨-, e1, e2, e3⟩
        refine absurd (val_uniq hb1 r1 o1 r2 o2 ?_) hne
        rw [o3, e2]
        exact redc_mod (x := R % mo) (y := 0) hm hm0 hRk r0 r3 hq (by rw [e3]; exact es) hon0 hon1
      · subst he
        obtain ⟨t1, t2, t3, q', hq'⟩ := ht
        rw [h3, ← hRb, o3] at hq'
        rw [h3] at t3
        have t0 := val_nonneg (by omega) t1
        rw [o3] at hq r0 r3
        rw [hbb, decide_eq_true_iff, one_row hb1 hm0 h1 h2 h3 t1 t2 t3]
        constructor
        · intro ev
          rw [ev] at hq'
          have e2 : a2 = R % mo := by
            have : a2 = R * (1 % mo) + mo * (-q') := by rw [hq']; grind
            rw [← Int.emod_eq_of_lt r0 r3, this, Int.add_mul_emod_self_left, ← eo, Int.emod_emod_of_dvd _ (Int.dvd_refl _)]
          refine ⟨rfl, minus_uniq hb l2 (by omega) l4 hi0 hi1 l6 i3, e2, ?_⟩
          have a30 := val_nonneg (by omega) q1
          rw [q3] at a30 l5
          rw [e2] at hq
          have : a3 = R * (R % mo) + mo * (-q) := by rw [hq]; grind
          rw [← Int.emod_eq_of_lt a30 l5, this, Int.add_mul_emod_self_left, ← es, Int.emod_emod_of_dvd _ (Int.dvd_refl _)]
        · rintro ⟨-, e1, e2, e3⟩
          exact redc_mod (x := 1 % mo) (y := 0) hm hm0 hRk t0 t3 hq' (by rw [e2]; exact eo) hu0 hu1
  · have hmm : mo ≠ m := by omega
    rcases h with ⟨hbb, _⟩ | ⟨_, l2, _⟩
    · subst hbb
      exact ⟨fun e => (nomatch e), fun e => absurd e.1 hmm⟩
    · omega
/-- the limbs below i that undo m -/
def sieve (b m : Int) : Nat → List Int
  | 0 => []
  | i + 1 => if ((i : Int) * m + 1).fmod b = 0 then sieve b m i ++ [(i : Int)] else sieve b m i
theorem sieve_mem {b m : Int} : ∀ {n : Nat} {y : Int}, y ∈ sieve b m n ↔ 0 ≤ y ∧ y < n ∧ (y * m + 1).fmod b = 0
  | 0, y => by simp [sieve]; omega
  | n + 1, y => by
    have ih := sieve_mem (b := b) (m := m) (n := n) (y := y)
    unfold sieve
    split
    · rename_i h
      rw [List.mem_append, ih, List.mem_singleton]
      constructor
      · rintro (⟨h1, h2, h3⟩ | rfl)
        · exact ⟨h1, by omega, h3⟩
        · exact ⟨by omega, by omega, h⟩
      · rintro ⟨h1, h2, h3⟩
        by_cases q : y = (n : Int)
        · exact .inr q
        · exact .inl ⟨h1, by omega, h3⟩
    · rename_i h
      rw [ih]
      constructor
      · rintro ⟨h1, h2, h3⟩
        exact ⟨h1, by omega, h3⟩
      · rintro ⟨h1, h2, h3⟩
        refine ⟨h1, ?_, h3⟩
        by_cases q : y = (n : Int)
        · subst q; exact absurd h3 h
        · omega
theorem sieve_in {b m : Int} {i : Nat} {ys : List Value} {t : Tok} (h : IntsAre ys (sieve b m i)) (hc : ((0 + (i : Int)) * m + 1).fmod b = 0) : IntsAre (ys ++ [.int (0 + (i : Int)) t]) (sieve b m (i + 1)) := by
  rw [Int.zero_add] at hc ⊢
  unfold sieve
  rw [if_pos hc]
  exact h.append (.cons _ _ .nil)
theorem sieve_out {b m : Int} {i : Nat} {ys : List Value} (h : IntsAre ys (sieve b m i)) (hc : ¬ ((0 + (i : Int)) * m + 1).fmod b = 0) : IntsAre ys (sieve b m (i + 1)) := by
  rw [Int.zero_add] at hc
  unfold sieve
  rw [if_neg hc]
  exact h
theorem sieve_head {b m : Int} {k n : Nat} (hb : b = 2 ^ k) (hn : (n : Int) = b) (hm : m % 2 = 1) : 0 < (sieve b m n).length ∧ 0 ≤ (sieve b m n).getD 0 0 ∧ (sieve b m n).getD 0 0 < b ∧ ((sieve b m n).getD 0 0 * m + 1) % b = 0 := by
  obtain ⟨x, h0, h1, h2⟩ := inv_ex hm k
  have hb0 : 0 < b := by rw [hb]; exact Int.pow_pos (by decide)
  rw [← hb] at h1 h2
  have hx : x ∈ sieve b m n := sieve_mem.mpr ⟨h0, by omega, by rw [Int.fmod_eq_emod_of_nonneg _ (by omega)]; exact h2⟩
  have hl : 0 < (sieve b m n).length := List.length_pos_of_mem hx
  have hh : (sieve b m n).getD 0 0 ∈ sieve b m n := by rw [getD_of hl]; exact List.getElem_mem hl
  obtain ⟨h3, h4, h5⟩ := sieve_mem.mp hh
  rw [Int.fmod_eq_emod_of_nonneg _ (by omega)] at h5
  exact ⟨hl, h3, by omega, h5⟩
section
variable {prog : Program} {w : World} {A : Around} {s : Shared} {h₀ : Heap} {L : Addr} {m : Str → Option Value} {env : Env}
theorem comp_ind {ct elt : Expr} {x : Str} {scope : Scope} {cl : List (Str × Addr)} {S : Led → Prop} {P : Nat → Value → Prop} {Fin : List Value → Led → Prop} {news : Led} (inv : Nat → List Value → Prop) {n : Nat} (h0 : inv 0 [])
    (turn : ∀ i k ys, i < n → inv i ys → (∀ ys', inv (i + 1) ys' → LCt.CompRestT prog w A h₀ L m env ct elt x scope cl s S P Fin k (i + 1) ys' news) → LCt.CompRestT prog w A h₀ L m env ct elt x scope cl s S P Fin (k + 1) i ys news)
    (fin : ∀ ys, inv n ys → Fin ys news) : LCt.CompRestT prog w A h₀ L m env ct elt x scope cl s S P Fin n 0 [] news := by
  have H : ∀ k i ys, i + k = n → inv i ys → LCt.CompRestT prog w A h₀ L m env ct elt x scope cl s S P Fin k i ys news := by
    intro k
    induction k with
    | zero => intro i ys hi hv; rw [Nat.add_zero] at hi; rw [hi] at hv; exact LCt.CompRestT.zero (fin ys hv)
    | succ k ih => intro i ys hi hv; exact turn i k ys (by omega) hv fun ys' hv' => ih (i + 1) ys' (by omega) hv'
  exact H n 0 [] (by omega) h0
end
theorem bent_le {b m size form mi on sq a1 a2 a3 : Int} (hb : b ≤ 512) (h0 : 0 ≤ mi) (h1 : mi < b) (o0 : 0 ≤ on) (o1 : on < m) (q0 : 0 ≤ sq) (q1 : sq < m) (hm : m < 134217730) (s0 : 0 ≤ size) (s1 : size ≤ 68719476736) (h : BentOf b m size form mi on sq a1 a2 a3) :
    0 ≤ a1 ∧ a1 < 2048 ∧ 0 ≤ a2 ∧ a2 < 2 ^ 100 ∧ 0 ≤ a3 ∧ a3 < 2 ^ 100 := by
  have e1 : m * size ≤ 134217730 * size := Int.mul_le_mul_of_nonneg_right (by omega) s0
  have e2 : 0 ≤ m * size := Int.mul_nonneg (by omega) s0
  rcases h with ⟨_, _, _, rfl, rfl⟩ | ⟨_, rfl, rfl, rfl⟩ | ⟨_, rfl, rfl, rfl⟩ | ⟨_, rfl, _, _, rfl⟩ | ⟨_, rfl, rfl, rfl⟩ | ⟨_, rfl, rfl, _, _⟩ | ⟨_, rfl, rfl, (rfl | rfl)⟩ | ⟨_, rfl, rfl, rfl⟩ | ⟨_, rfl, rfl, rfl⟩ <;> omega
section
variable {h₀ h : Heap} {L : Addr} {news : Led}
theorem tup_hideN {d l : Addr} {items : Array Value} (N : News h₀ L h news) (hl : (l, ({ cls := .type "tuple", data := .seq items } : Obj)) ∈ news) (hd : l ≠ d) : IsTup (hideAll h [d]) l items :=
  ⟨_, hideAll_get _ (N _ hl).1 (by simpa using hd), rfl, 0, rfl⟩
theorem check_pre {x dx lm lo lsq : Addr} {h1 h2 h3 h4 : Int} {t1 t2 t3 t4 tm : Tok} {n n1 n2 n3 : Nat} {mi : Int} {us usO usQ : List Value} (N : News h₀ L h news) (k1 : (x, instObj 98 dx) ∈ news) (k2 : (dx, toldDict h1 h2 h3 h4 t1 t2 t3 t4 tm n lm lo lsq mi) ∈ news) (k3 : (lm, listOf us.toArray n1) ∈ news) (k4 : (lo, listOf usO.toArray n2) ∈ news) (k5 : (lsq, listOf usQ.toArray n3) ∈ news) :
    isL h lm us ∧ isL h lo usO ∧ isL h lsq usQ ∧ h.get? x = some (instObj 98 dx) ∧ h.get? dx = some (toldDict h1 h2 h3 h4 t1 t2 t3 t4 tm n lm lo lsq mi) :=
  ⟨⟨_, (N _ k3).1, rfl, _, rfl⟩, ⟨_, (N _ k4).1, rfl, _, rfl⟩, ⟨_, (N _ k5).1, rfl, _, rfl⟩, (N _ k1).1, (N _ k2).1⟩
end
/-- the modulus that is handed in: the right one, or an even one -/
def ModPost (mm : Int) (s : Shared) (r : Value) (s' : Shared) : Prop := ∃ mo t tk, r = .int mo t ∧ (mo = mm ∨ mo % 2 = 0) ∧ 0 ≤ mo ∧ mo ≤ mm + 1 ∧ s' = { s with toks := tk }
theorem mod_join {M : Model} {A : Around} {t : Sem Value} {Q E : Value → Shared → Prop} {s : Shared} (mm : Int) (h1 : wpAny M A t (ModPost mm s) E s)
    (h2 : ∀ mo tm tk, (mo = mm ∨ mo % 2 = 0) → 0 ≤ mo → mo ≤ mm + 1 → Q (.int mo tm) { s with toks := tk }) : wpAny M A t Q E s :=
  wpAny_mono h1 (fun r s' h => by obtain ⟨mo, tm, tk, rfl, h3, h4, h5, rfl⟩ := h; exact h2 mo tm tk h3 h4 h5) fun _ _ h => h
/-- the answer that is asked for -/
def BoolPost (P : Prop) (s : Shared) (r : Value) (s' : Shared) : Prop := ∃ bo tk, r = .bool bo ∧ (bo = true ↔ P) ∧ s' = { s with toks := tk }
theorem bool_join {M : Model} {A : Around} {t : Sem Value} {Q E : Value → Shared → Prop} {s : Shared} (P : Prop) (h1 : wpAny M A t (BoolPost P s) E s)
    (h2 : ∀ bo tk, (bo = true ↔ P) → Q (.bool bo) { s with toks := tk }) : wpAny M A t Q E s :=
  wpAny_mono h1 (fun r s' h => by obtain ⟨bo, tk, rfl, h3, rfl⟩ := h; exact h2 bo tk h3) fun _ _ h => h
theorem bool_join2 {M : Model} {A : Around} {t : Sem Value} {Q E : Value → Shared → Prop} {s : Shared} {bb : Bool} {P : Prop} (hc : bb = true ↔ P) (h1 : wpAny M A t (BoolPost P s) E s)
    (h2 : ∀ bo tk, (bo = true ↔ P) → Q (.bool bo) { s with toks := tk }) : wpAny M A t Q E s := bool_join P h1 h2
theorem bool_in {mo m a1 a2 a3 x y z : Int} (h : mo = m) : (a1 == x && (a2 == y && a3 == z)) = true ↔ (mo = m ∧ a1 = x ∧ a2 = y ∧ a3 = z) := by
  simp only [Bool.and_eq_true, beq_iff_eq, h, true_and]
theorem bool_out {mo m a1 a2 a3 x y z : Int} (h : ¬ mo = m) : false = true ↔ (mo = m ∧ a1 = x ∧ a2 = y ∧ a3 = z) := ⟨fun e => (nomatch e), fun e => absurd e.1 h⟩
theorem bool_out2 {mo m a1 a2 a3 x y z : Int} (h : mo ≠ m) : (mo == m) = true ↔ (mo = m ∧ a1 = x ∧ a2 = y ∧ a3 = z) := ⟨fun e => absurd (beq_iff_eq.mp e) h, fun e => absurd e.1 h⟩
theorem law_dead {bb bo : Bool} {P : Prop} (h1 : bb = true ↔ P) (h2 : bo = true ↔ P) : ¬ (bb != bo) = true := by
  have : bb = bo := by
    cases bb <;> cases bo <;> simp_all
  subst this
  simp
theorem row_pow {wd m : Int} {rs : List Int} (hw : 2 ≤ wd) (hb1 : 1 < (2 : Int) ^ wd.toNat) (h1 : Rng (2 ^ wd.toNat) rs) (h2 : Canon rs) (h3 : val (2 ^ wd.toNat) rs = m) :
    ∀ ms : List Int, Rng (2 ^ wd.toNat) ms → Canon ms → val (2 ^ wd.toNat) ms = m → (2 : Int) ^ (wd * (rs.length : Int)).toNat = (2 ^ wd.toNat) ^ ms.length := by
  intro ms k1 k2 k3
  have e := val_uniq hb1 h1 k1 h2 k2 (h3.trans k3.symm)
  subst e
  exact (pow_rows (by omega) _).symm
theorem check_right' {wd m R mi0 a1 a2 a3 mo : Int} {ms' os qs : List Int} {bb : Bool} (hw : 2 ≤ wd) (hb1 : 1 < (2 : Int) ^ wd.toNat) (hm0 : 0 < m) (hm : m % 2 = 1)
    (hR : ∀ ms : List Int, Rng (2 ^ wd.toNat) ms → Canon ms → val (2 ^ wd.toNat) ms = m → R = (2 ^ wd.toNat) ^ ms.length) (hi0 : 0 ≤ mi0) (hi1 : mi0 < 2 ^ wd.toNat) (hi : (mi0 * m + 1) % 2 ^ wd.toNat = 0) (hmo : mo = m ∨ mo % 2 = 0)
    (h1 : Rng (2 ^ wd.toNat) ms') (h2 : Canon ms') (h3 : val (2 ^ wd.toNat) ms' = mo) (o1 : Rng (2 ^ wd.toNat) os) (o2 : Canon os) (o3 : val (2 ^ wd.toNat) os = a2) (q1 : Rng (2 ^ wd.toNat) qs) (q2 : Canon qs) (q3 : val (2 ^ wd.toNat) qs = a3)
    (h : CheckRes (2 ^ wd.toNat) ms' os qs a1 bb) : bb = true ↔ (mo = m ∧ a1 = mi0 ∧ a2 = R.fmod m ∧ a3 = (R * R).fmod m) := by
  rw [Int.fmod_eq_emod_of_nonneg _ (by omega), Int.fmod_eq_emod_of_nonneg _ (by omega)]
  exact check_right (n := 0) hw rfl hb1 hm0 hm hR hi0 hi1 hi hmo h1 h2 h3 o1 o2 o3 q1 q2 q3 h
section
variable {prog : Program} {w : World} {A : Around} {s : Shared} {h₀ : Heap} {L : Addr} {news : Led} {Q E : Value → Shared → Prop}
theorem reads_l {l : Addr} {us : List Value} {n : Nat} {ns : List Int} (N : News h₀ L s.heap news) (k : (l, listOf us.toArray n) ∈ news) (i : IntsAre us ns) : Reads s.heap (.ref l) (.list (ns.map PyData.int)) [l] :=
  reads_newData ⟨_, (N _ k).1, rfl, _, rfl⟩ (ke_carried i)
theorem parts_eq {b m1 m2 m3 a : Int} {p q l1 l2 l3 k1 k2 k3 : Addr} {t t' : Tok} {us1 us2 us3 vs1 vs2 vs3 : List Value} {n1 n2 n3 n1' n2' n3' : Nat} {ns1 ns2 ns3 ms1 ms2 ms3 : List Int} (hb : 1 < b) (N : News h₀ L s.heap news)
    (kp : (p, ({ cls := .type "tuple", data := .seq #[.ref l1, .int a t, .ref l2, .ref l3] } : Obj)) ∈ news) (kq : (q, ({ cls := .type "tuple", data := .seq #[.ref k1, .int a t', .ref k2, .ref k3] } : Obj)) ∈ news)
    (g1 : (l1, listOf us1.toArray n1) ∈ news) (g2 : (l2, listOf us2.toArray n2) ∈ news) (g3 : (l3, listOf us3.toArray n3) ∈ news) (f1 : (k1, listOf vs1.toArray n1') ∈ news) (f2 : (k2, listOf vs2.toArray n2') ∈ news) (f3 : (k3, listOf vs3.toArray n3') ∈ news)
    (i1 : IntsAre us1 ns1) (i2 : IntsAre us2 ns2) (i3 : IntsAre us3 ns3) (j1 : IntsAre vs1 ms1) (j2 : IntsAre vs2 ms2) (j3 : IntsAre vs3 ms3)
    (x1 : Rng b ns1) (x2 : Rng b ns2) (x3 : Rng b ns3) (y1 : Rng b ms1) (y2 : Rng b ms2) (y3 : Rng b ms3) (c1 : Canon ns1) (c2 : Canon ns2) (c3 : Canon ns3) (d1 : Canon ms1) (d2 : Canon ms2) (d3 : Canon ms3)
    (v1 : val b ns1 = m1) (v2 : val b ns2 = m2) (v3 : val b ns3 = m3) (w1 : val b ms1 = m1) (w2 : val b ms2 = m2) (w3 : val b ms3 = m3) (hu : A.units + 64 < cLine) (h : Q (.bool true) s) :
    wpAny (model prog w) A (compareOp .Eq (.ref p) (.ref q)) Q E s := by
  have e1 := val_uniq hb x1 y1 c1 d1 (v1.trans w1.symm)
  have e2 := val_uniq hb x2 y2 c2 d2 (v2.trans w2.symm)
  have e3 := val_uniq hb x3 y3 c3 d3 (v3.trans w3.symm)
  subst e1 e2 e3
  have sh : SeqAt.shaped (.tuple [.list (ns1.map PyData.int), .int a, .list (ns2.map PyData.int), .list (ns3.map PyData.int)]) = true := by
    simp [SeqAt.shaped, PyData.canLay0, PyData.canLayAll0, PyData.depth, PyData.depthAll, ke_canLayAll0, ke_depthAll]
  refine eq_dataH (reads_tuple_at (N _ kp).1 rfl rfl (.cons (reads_l N g1 i1) (.cons (.int _ _) (.cons (reads_l N g2 i2) (.cons (reads_l N g3 i3) .nil)))))
    (reads_tuple_at (N _ kq).1 rfl rfl (.cons (reads_l N f1 j1) (.cons (.int _ _) (.cons (reads_l N f2 j2) (.cons (reads_l N f3 j3) .nil))))) sh sh hu ?_
  rw [SeqAt.eqv_refl _ (SeqAt.canLay_of_shaped sh)]
  exact h
end
end Mine
namespace Mine
def Kept (p : Prop) : Prop := p
theorem kept {p : Prop} (h : Kept p) : p := h
local macro_rules | `(tactic| walk_at "call ref") => `(tactic| first | k_extra "call ref" | (fail_if_success (with_reducible show wpAny _ _ (call (Value.ref 98) _) _ _ _); refine Mine.kept ?_))
local macro_rules | `(tactic| walk_at "pyIter ref") => `(tactic| first | k_extra "pyIter ref" | refine Mine.kept ?_)
local macro_rules | `(tactic| walk_at "eval ListComp") => `(tactic| k_extra "eval ListComp")
local macro_rules | `(tactic| walk_at "CompSrcT") => `(tactic| k_extra "CompSrcT")
local macro_rules | `(tactic| walk_at "CompRestT") => `(tactic| k_extra "CompRestT")
local macro_rules | `(tactic| walk_at "eval IfExp") => `(tactic| k_extra "eval IfExp")
local macro_rules | `(tactic| walk_at "ModPost") => `(tactic| k_extra "ModPost")
local macro_rules | `(tactic| walk_at "eval BoolOp") => `(tactic| k_extra "eval BoolOp")
local macro_rules | `(tactic| walk_at "BoolPost") => `(tactic| k_extra "BoolPost")
local macro_rules | `(tactic| walk_at "CompEnd") => `(tactic| k_extra "CompEnd")
local macro_rules | `(tactic| walk_at "exec Return some") => `(tactic| k_extra "exec Return some")
local macro_rules | `(tactic| walk_at "compareOp Eq ref ref") => `(tactic| k_extra "compareOp Eq ref ref")
theorem sl512 : 512 ≤ sizeLine := by rw [sizeLine_eq]; decide
theorem mstep {b mv v : Int} {n : Nat} (hb : 0 < b) (h0 : 0 ≤ mv) (h1 : mv < b ^ n) (hv0 : 0 ≤ v) (hv1 : v < b) : 0 ≤ mv * b + v ∧ mv * b + v < b ^ (n + 1) := by
  have h2 := Int.mul_nonneg h0 (Int.le_of_lt hb)
  have h3 : (mv + 1) * b ≤ b ^ n * b := Int.mul_le_mul_of_nonneg_right (by omega) (Int.le_of_lt hb)
  rw [Int.add_mul, Int.one_mul] at h3
  rw [Int.pow_succ]
  omega
theorem mv_bound {b mv : Int} {n : Nat} (hb : 1 < b) (hb2 : b ≤ 512) (h : mv < b ^ n) (hn : n ≤ 3) : mv < 134217728 := by
  have h1 : b ^ n ≤ b ^ 3 := pow_mono hb hn
  have h2 : b * b ≤ 512 * 512 := Int.mul_le_mul hb2 hb2 (by omega) (by decide)
  have h3 : b * b * b ≤ 512 * 512 * 512 := Int.mul_le_mul h2 hb2 (by omega) (by decide)
  have h4 : b ^ 3 = b * b * b := by grind
  omega
theorem modd {mv : Int} (h0 : 0 ≤ mv) (h1 : mv < 134217728) : 0 < mv.fdiv 2 * 2 + 1 ∧ mv.fdiv 2 * 2 + 1 < 134217730 ∧ (mv.fdiv 2 * 2 + 1) % 2 = 1 := by
  rw [Int.fdiv_eq_ediv_of_nonneg mv (by decide)]
  omega
theorem row_bits {wd m : Int} {rs : List Int} (hw : 2 ≤ wd) (hw' : wd ≤ 9) (hm : 0 < m) (hm2 : m < 134217730) (h1 : Rng (2 ^ wd.toNat) rs) (h2 : Canon rs) (h3 : val (2 ^ wd.toNat) rs = m) :
    0 ≤ wd * (rs.length : Int) ∧ wd * (rs.length : Int) ≤ 36 ∧ 0 < rs.length ∧ 0 < (2 : Int) ^ (wd * (rs.length : Int)).toNat ∧ (2 : Int) ^ (wd * (rs.length : Int)).toNat ≤ 68719476736 := by
  have hn : 0 < rs.length := by
    cases rs with
    | nil => simp [val] at h3; omega
    | cons _ _ => simp
  have hb1 := pow_gt1 hw
  have h4 := val_ge (by omega) h1 (rs.length - 1) (by omega) (h2 hn)
  rw [h3] at h4
  have h5 : ((2 : Int) ^ wd.toNat) ^ (rs.length - 1) = 2 ^ (wd.toNat * (rs.length - 1)) := (Int.pow_mul ..).symm
  rw [h5] at h4
  have h6 : wd.toNat * (rs.length - 1) < 28 := by
    apply Classical.byContradiction
    intro hc
    have := pow_mono (b := 2) (by decide) (show 28 ≤ wd.toNat * (rs.length - 1) by omega)
    have : (2 : Int) ^ 28 = 268435456 := by decide
    omega
  have h7 : wd.toNat * (rs.length - 1) + wd.toNat = wd.toNat * rs.length := by
    obtain ⟨k, hk⟩ := Nat.exists_eq_add_of_le hn
    rw [hk, Nat.add_comm 1 k, Nat.add_sub_cancel, Nat.mul_add, Nat.mul_one]
  have h8 : wd * (rs.length : Int) = ((wd.toNat * rs.length : Nat) : Int) := by
    rw [Int.natCast_mul]; congr 1; omega
  have h9 : wd * (rs.length : Int) ≤ 36 := by rw [h8]; omega
  refine ⟨by rw [h8]; omega, h9, hn, Int.pow_pos (by decide), ?_⟩
  have := pow_mono (b := 2) (by decide) (show (wd * (rs.length : Int)).toNat ≤ 36 by omega)
  have : (2 : Int) ^ 36 = 68719476736 := by decide
  omega
theorem mturn {b mv v kk k : Int} {pre : List Int} (hb : 0 < b) (hk : kk = 2 + (pre.length : Int)) (h0 : 0 ≤ mv) (h1 : mv < b ^ pre.length) (hv0 : 0 ≤ v) (hv1 : v < b) : kk + 1 = 2 + ((pre ++ [k]).length : Int) ∧ 0 ≤ mv * b + v ∧ mv * b + v < b ^ (pre ++ [k]).length := by
  rw [List.length_append, List.length_singleton]
  exact ⟨by omega, mstep hb h0 h1 hv0 hv1⟩
set_option maxHeartbeats 40000000 in
theorem law_walk : PySem.Challenge.rw_rr0054_01.Holds := hd (by
  k_with_none
  w_top off
  k_go0
  all_goals try k_fold
  rename Ground _ _ _ _ _ _ _ _ _ => q1
  clear q1
  k_with "call ref" =>
    k_dflt (
      refine' use_mut (c_next ?i1 ?n0 ?k0 ?n1 ?n2) ?U ?B ?F ?X ?T ?N ?hk ?hd ?hu ?hp ?_
      case N => k_asm
      case U => k_updF
      case hp => exact isL_hideN (by k_asm) (by k_mem) (by k_ne)
      case B => k_asm
      case F => k_asm
      case X => k_asm
      case T => k_asm
      case hk => rfl
      case hd => ktr_room
      case hu => ktr_units
      case i1 => l_ints
      case n0 => (simp only [List.length_take]; omega)
      case k0 => omega
      case n1 => omega
      case n2 => (first | assumption | omega | exact Int.pow_pos (by decide))
      intro r x h' tk' F' N' hP
      obtain ⟨vx, tvx, hr9, hvx0, hvx1⟩ := hP
      subst hr9)
    (try k_fold)
  k_with "call ref" =>
    k_dflt (
      refine' use_mut (c_next (many := 13) ?i1 ?n0 ?k0 ?n1 ?n2) ?U ?B ?F ?X ?T ?N ?hk ?hd ?hu ?hp ?_
      case N => k_asm
      case U => k_updF
      case hp => exact isL_hideN (by k_asm) (by k_mem) (by k_ne)
      case B => k_asm
      case F => k_asm
      case X => k_asm
      case T => k_asm
      case hk => rfl
      case hd => ktr_room
      case hu => ktr_units
      case i1 => l_ints
      case n0 => (simp only [List.length_take]; omega)
      case k0 => omega
      case n1 => omega
      case n2 => (first | assumption | omega | exact Int.pow_pos (by decide))
      intro r x h' tk' F' N' hP
      obtain ⟨vf, tvf, hr9, hvf0, hvf1⟩ := hP
      subst hr9)
    (try k_fold)
  k_with "call ref" =>
    k_dflt (
      refine' use_mut (c_next (many := 3) ?i1 ?n0 ?k0 ?n1 ?n2) ?U ?B ?F ?X ?T ?N ?hk ?hd ?hu ?hp ?_
      case N => k_asm
      case U => k_updF
      case hp => exact isL_hideN (by k_asm) (by k_mem) (by k_ne)
      case B => k_asm
      case F => k_asm
      case X => k_asm
      case T => k_asm
      case hk => rfl
      case hd => ktr_room
      case hu => ktr_units
      case i1 => l_ints
      case n0 => (simp only [List.length_take]; omega)
      case k0 => omega
      case n1 => omega
      case n2 => (first | assumption | omega | exact Int.pow_pos (by decide))
      intro r x h' tk' F' N' hP
      obtain ⟨v3, tv3, hr9, hv30, hv31⟩ := hP
      subst hr9)
    (try k_fold)
  k_with "call ref" =>
    k_dflt (
      refine' use_mut (c_next (many := 8) ?i1 ?n0 ?k0 ?n1 ?n2) ?U ?B ?F ?X ?T ?N ?hk ?hd ?hu ?hp ?_
      case N => k_asm
      case U => k_updF
      case hp => exact isL_hideN (by k_asm) (by k_mem) (by k_ne)
      case B => k_asm
      case F => k_asm
      case X => k_asm
      case T => k_asm
      case hk => rfl
      case hd => ktr_room
      case hu => ktr_units
      case i1 => l_ints
      case n0 => (simp only [List.length_take]; omega)
      case k0 => omega
      case n1 => omega
      case n2 => (first | assumption | omega | exact Int.pow_pos (by decide))
      intro r x h' tk' F' N' hP
      obtain ⟨v8, tv8, hr9, hv80, hv81⟩ := hP
      subst hr9)
    (try k_fold)
  k_with "call ref" =>
    k_dflt (
      refine' use_list (c_row ?w1 ?w2 ?n1 ?n2) ?B ?F ?X ?T ?N ?hk ?hd ?hu ?hp ?_
      case hp => trivial
      case B => k_asm
      case F => k_asm
      case X => k_asm
      case T => k_asm
      case N => k_asm
      case hk => rfl
      case hd => ktr_room
      case hu => ktr_units
      case w1 => omega
      case w2 => omega
      case n1 => (first | omega | assumption)
      case n2 => (first | omega | assumption)
      intro l' us' n' ns' h' tk' F' N' l1 hI' hP
      (try replace l1 := allNe_of l1)
      (try simp only [AllNe, and_true] at l1)
      obtain ⟨hR1, hR2, hR3, hR4⟩ := hP)
    (try k_fold)
  k_with "call ref" =>
    k_dflt (
      refine' use_list (c_row (nu := mv.fdiv 2 * 2 + 1) ?w1 ?w2 ?n1 ?n2) ?B ?F ?X ?T ?N ?hk ?hd ?hu ?hp ?_
      case hp => trivial
      case B => k_asm
      case F => k_asm
      case X => k_asm
      case T => k_asm
      case N => k_asm
      case hk => rfl
      case hd => ktr_room
      case hu => ktr_units
      case w1 => omega
      case w2 => omega
      case n1 => (first | omega | assumption)
      case n2 => (first | omega | assumption)
      intro l' us' n' ns' h' tk' F' N' l1 hI' hP
      (try replace l1 := allNe_of l1)
      (try simp only [AllNe, and_true] at l1)
      obtain ⟨hR1, hR2, hR3, hR4⟩ := hP
      obtain ⟨hq1, hq2, hq3, hq4, hq5⟩ := row_bits (by omega) (by omega) hM1 hM2 hR2 hR3 hR4
      have hRR := row_pow (by omega) hp1 hR2 hR3 hR4)
    (try k_fold)
  k_with "call ref" =>
    k_dflt (
      refine' use_bent (c_bent ?i1 ?n0 ?k0 ?k1 ?m0 ?f0 ?f1 ?w0 ?w1 ?m1 ?s0 ?s1) ?U ?B ?F ?X ?T ?N ?hr ?hrl ?hk ?hd ?hu ?hp ?_
      case N => k_asm
      case hr => k_mem
      case U => k_updF
      case hrl => k_ne
      case hp => exact ⟨isL_hideN (by k_asm) (by k_mem) (by k_ne), tup_hideN (by k_asm) (by k_mem) (by k_ne)⟩
      case B => k_asm
      case F => k_asm
      case X => k_asm
      case T => k_asm
      case hk => rfl
      case hd => ktr_room
      case hu => ktr_units
      case i1 => l_ints
      case n0 => (simp only [List.length_take]; omega)
      case k0 => omega
      case k1 => omega
      case m0 => omega
      case f0 => omega
      case f1 => omega
      case w0 => omega
      case w1 => omega
      case m1 => omega
      case s0 => omega
      case s1 => omega
      intro k2 tk2 n2 t4 t5 t6 lt a1 a2 a3 h' tk' F' N' hBent
      have hBl := bent_le hp5 hz2 hz3 (fmod_lo _ hM1) (fmod_hi _ hM1) (fmod_lo _ hM1) (fmod_hi _ hM1) hM2 (Int.le_of_lt hq4) hq5 hBent
      obtain ⟨ha10, ha11, ha20, ha21, ha30, ha31⟩ := hBl)
    (try k_fold)
  k_with "call ref" =>
    k_dflt (
      refine' use_val (c_check ?i1 ?i2 ?i3 ?g1 ?g2 ?g3 ?w0 ?w1 ?r1 ?r2 ?r3 ?c1 ?c2 ?c3 ?b0 ?b1) ?B ?F ?X ?T ?N ?hk ?hd ?hu ?hp ?_
      case N => k_asm
      case hp => exact check_pre (by k_asm) (by k_mem) (by k_mem) (by k_mem) (by k_mem) (by k_mem)
      case B => k_asm
      case F => k_asm
      case X => k_asm
      case T => k_asm
      case hk => rfl
      case hd => ktr_room
      case hu => ktr_units
      case i1 => l_ints
      case i2 => l_ints
      case i3 => l_ints
      case g1 => omega
      case g2 => omega
      case g3 => omega
      case w0 => omega
      case w1 => omega
      case r1 => assumption
      case r2 => assumption
      case r3 => assumption
      case c1 => assumption
      case c2 => assumption
      case c3 => assumption
      case b0 => omega
      case b1 => omega
      intro r h' tk' F' N' st hP
      obtain ⟨bb, hr9, hCk⟩ := hP
      subst hr9
      have hCR := check_right' (by omega) hp1 hM1 hM3 hRR hz2 hz3 hz4 hmo1 (by assumption) (by assumption) (by assumption) (by assumption) (by assumption) (by assumption) (by assumption) (by assumption) (by assumption) hCk)
    (try k_fold)
  k_with "pyIter ref" =>
    rename Fr _ _ _ _ => lF'
    rename News _ _ _ _ => lN'
    rename IsRange _ _ _ _ _ _ _ _ => rgX
    with_unfolding_all refine' kst_range (σ := Int × Nat × Int × Nat × Nat × Obj) (fun c => [_, (_, ropeObj _ c.2.2.1 (c.2.2.2.1, c.2.2.2.2.1)), _, (_, c.2.2.2.2.2), _]) (fun _ => []) (fun c => c.2.2.2.2.2.data = .cell (some (.int c.1 c.2.1))) [] (fun pre c => c.2.2.1 = 2 + (pre.length : Int) ∧ 0 ≤ c.1 ∧ c.1 < (2 ^ (2 + v8).toNat) ^ pre.length) (0, _, 0 + 1 + 1, _, _, _) (by rfl) rgX (small_one (by omega) (by omega) (by omega) (by omega)) (rangeSize_nat _ _) lF' lN' (by assumption) (List.forall_mem_nil _) ⟨by simp, by simp, by simp⟩ ?_ ?_
    all_goals (try clear lF' lN')
    all_goals (first | (intro c pre k t u h tk own hk hlt hoff hf hce kFr kNews) | (intro c u h tk hf hce kFr kNews))
    all_goals obtain ⟨mv, tm, kk, xt, xn, oc⟩ := c
    all_goals obtain ⟨hce1, hce2, hce3⟩ := hce
    all_goals (have kMark := kstMark)
    all_goals (have hp5 := pow_le512 (wd := 2 + v8) (by omega) (by omega))
    all_goals (have hp1 := pow_gt1 (wd := 2 + v8) (by omega))
    all_goals (first | (have hmvb := mv_bound hp1 hp5 hce3 (by omega)) | (have hmvb := mv_bound hp1 hp5 hce3 (by rw [rangeKs_length]; omega)))
    all_goals (obtain ⟨hM1, hM2, hM3⟩ := modd hce2 hmvb)
    all_goals ((try dsimp only [kstB] at kFr); (try simp only [rangeKs_length] at hce1); (try dsimp only at kNews hf hce1 hce2 hce3 hmvb hM1 hM2 hM3); (try simp only [List.nil_append, List.cons_append] at kNews); (try simp only [List.map_cons, List.map_nil] at hoff); (try k_fold))
  k_with "eval ListComp" => k_dflt (refine LCt.ListComp_T (F₀ := by k_asm) (by with_unfolding_all rfl) (by decide) (by rfl) (by decide) (by rfl) ?_)
  k_with "CompSrcT" =>
    (k_dflt (refine LCt.CompSrcT.range (by rfl) (by k_asm) (by k_asm) (by assumption) (small_one (by omega) (by omega) (by omega) (by omega)) (rangeSize_nat _ _) (Nat.le_trans (show _ ≤ 512 by omega) sl512) ?_))
    (intro g')
    (refine comp_ind (fun i ys => IntsAre ys (sieve (2 ^ (2 + v8).toNat) (mv.fdiv 2 * 2 + 1) i)) .nil ?_ ?_)
    (all_goals first
      | (intro ci ck cys hci hcI hcR; refine LCt.CompRestT.succ ?_; intro v' I' oI' C' oC' D' m' h' tk' E' hv' hC' hx' F' N' off' ne'; obtain ⟨t9', hv9'⟩ := hv'; subst hv9'; have hoff := off'; (try simp only [LCg.Off3, and_true] at off'); (try dsimp only at hcI))
      | (intro cys hcI; (try dsimp only at hcI)
         obtain ⟨hz1, hz2, hz3, hz4⟩ := sieve_head (b := 2 ^ (2 + v8).toNat) (m := mv.fdiv 2 * 2 + 1) (n := ((2 : Int) ^ (2 + v8).toNat - 0).toNat) rfl (by omega) hM3
         generalize sieve (2 ^ (2 + v8).toNat) (mv.fdiv 2 * 2 + 1) ((2 : Int) ^ (2 + v8).toNat - 0).toNat = zs at hcI hz1 hz2 hz3 hz4))
  k_with "CompRestT" => (with_reducible refine hcR _ ?_; first | exact sieve_in hcI (by assumption) | exact sieve_out hcI (by assumption))
  k_with "eval IfExp" =>
    (fail_if_success (have := hMod))
    (k_dflt (refine mod_join (mv.fdiv 2 * 2 + 1) ?_ ?_))
    (all_goals first | (intro mo tmo tkm hmo1 hmo2 hmo3) | (have hMod := True.intro))
  k_with "ModPost" => k_dflt (first
    | exact ⟨_, _, _, rfl, .inl rfl, by omega, by omega, rfl⟩
    | exact ⟨_, _, _, rfl, .inr (by omega), by omega, by omega, rfl⟩)
  k_with "CompEnd" => k_dflt (refine LCg.CompEnd.intro (by assumption) N' _ (fun p hp => hp) hoff True.intro ?_)
  k_with "eval BoolOp" =>
    (fail_if_success (have := hBoo))
    (k_dflt (refine bool_join2 hCR ?_ ?_))
    (all_goals first | (intro bo tkb hBo) | (have hBoo := True.intro))
  k_with "BoolPost" => k_dflt (first
    | exact ⟨_, _, rfl, bool_in (by assumption), rfl⟩
    | exact ⟨_, _, rfl, bool_out2 (by assumption), rfl⟩
    | exact ⟨_, _, rfl, bool_out (by assumption), rfl⟩)
  k_with "exec Return some" => k_dflt (exact absurd (by assumption) (law_dead hCR hBo))
  k_with "compareOp Eq ref ref" => k_dflt (refine parts_eq hp1 (by k_asm) (by k_mem) (by k_mem) (by k_mem) (by k_mem) (by k_mem) (by k_mem) (by k_mem) (by k_mem) (by assumption) (by assumption) (by assumption) (by assumption) (by assumption) (by assumption) (by assumption) (by assumption) (by assumption) (by assumption) (by assumption) (by assumption) (by assumption) (by assumption) (by assumption) (by assumption) (by assumption) (by assumption) (by assumption) (by assumption) (by assumption) (by assumption) (by assumption) (by assumption) (by ke_room) ?_)
  k_with "state" => exact mturn (Int.pow_pos (by decide)) (by assumption) (by assumption) (by assumption) (by assumption) (by assumption)
  k_steps)
end Mine
theorem PySem.Challenge.cw_rr0054_01_holds : PySem.Challenge.rw_rr0054_01.Holds := by
  exact Mine.law_walk
