import PyProof.Rows.All
import Wide.All
import OpenK.AllK
import Wide.FinOn
import KE.KEqDict
import PySem.Challenge.RW_pq1344_01
set_option Elab.async false
set_option linter.all false
namespace Mine
/-- a claim to be shown by simp's discharger -/
def Wd (P : Prop) : Prop := P
theorem wt {P : Prop} (h : P) : Wd P = True := eq_true h
theorem wo {P : Prop} (h : Wd P) : P := h
theorem wk {P : Prop} (h : P) : P := h
section
open PySem PySem.W PyProof.Rows
set_option Elab.async false
set_option maxRecDepth 100000
set_option maxHeartbeats 8000000
section
local macro_rules | `(tactic| o_head $_) => `(tactic| assumption)
/-- the written part of the heap that the top leaves, as the kit writes it -/
theorem fragK (h : PySem.Challenge.rw_pq1344_01.row.Holds) : PySem.Challenge.rw_pq1344_01.row.Holds := by
  k_head
end
end
local macro_rules | `(tactic| k_room) => `(tactic| k_extra "ROOM")
local macro_rules | `(tactic| k_units) => `(tactic| k_extra "UNITS")
local macro_rules | `(tactic| k_lt $h:ident) => `(tactic| replace $h := PySem.W.allLt_of $h)
local macro_rules | `(tactic| walk_at $s:str) => `(tactic| k_extra $s)
local macro_rules | `(tactic| k_enter) => `(tactic| k_extra "ENTER")
local macro_rules | `(tactic| k_mem) => `(tactic| k_extra "MEM")
local macro_rules | `(tactic| k_ne) => `(tactic| k_extra "NE1")
local macro_rules | `(tactic| k_all) => `(tactic| k_extra "ALL")
section
open PySem PySem.W PyProof.Rows PySem.Calls
set_option Elab.async false
set_option maxRecDepth 100000

/-- what stood stands, but at the places of fp -/
def ExtBut (fp : List Addr) (h h' : Heap) : Prop := ∀ b o, b ∉ fp → h.get? b = some o → h'.get? b = some o

/-- the ledger `new` is at hand in h', its objects new or of `pre` -/
def Fresh (h : Heap) (pre new : List (Addr × Obj)) : Prop := ∀ q ∈ new, q.1 ∉ pre.map (·.1) → h.get? q.1 = none

/-- a call of a def of the text from a def's frame: it gives back v and the ledger new, R v new; no raise -/
def Tells (w : World) (d : Nat) (f : Addr) (args : List Value) (pre : List (Addr × Obj)) (fp : List Addr) (R : Value → List (Addr × Obj) → Prop) : Prop :=
  ∀ (p : Program) (loose : List Str) (mean : ExcName → Option Value) (mg mb : Str → Option Value)
    (dp un : Nat) (gd : Option (List Code)) (cn : Str) (cs : Scope) (a : Addr) (ccd : Value) (cl : List (Str × Addr)) (outer : List Env) (A₀ : Around) (base h₀ : Heap) (L : Addr) (m : Str → Option Value) (s : Shared) (Q E : Value → Shared → Prop),
    Below A₀ base outer h₀ → Fr h₀ L s.heap m → (fragK.heap_1 w.params).In h₀ → News h₀ L s.heap pre → Top p loose mean mg mb h₀ → cs.kind = .function → dp + d < recursionLimit → un + 8 * d < cLine →
    (∀ r h' tk' new, Fr h₀ L h' m → News h₀ L h' new → ExtBut fp s.heap h' → Fresh s.heap pre new → R r new → Q r { s with heap := h', toks := tk' }) →
    wpAny (model PySem.Challenge.rw_pq1344_01.row.prog w) (ktrTop dp un gd cn cs L a ccd cl outer) (call (.ref f) args) Q E s

/-- a body's end: what the frame hands on -/
def Done (g : Heap) (L : Addr) (pre : List (Addr × Obj)) (fp : List Addr) (R : Value → List (Addr × Obj) → Prop) (v : Value) (s' : Shared) : Prop :=
  ∃ m' news' new, Fr g L s'.heap m' ∧ News g L s'.heap news' ∧ (∀ q ∈ new, q ∈ news') ∧ (∀ q ∈ pre, q.1 ∉ fp → q ∈ news') ∧ R v new

theorem done_of {g : Heap} {L : Addr} {pre news' new : List (Addr × Obj)} {fp : List Addr} {R : Value → List (Addr × Obj) → Prop} {v : Value} {s' : Shared} {m' : Str → Option Value}
    (F : Fr g L s'.heap m') (N : News g L s'.heap news') (h1 : ∀ q ∈ new, q ∈ news') (h2 : ∀ q ∈ pre, q.1 ∉ fp → q ∈ news') (h3 : R v new) : Done g L pre fp R v s' := ⟨m', news', new, F, N, h1, h2, h3⟩

def Post (g : Heap) (L : Addr) (pre : List (Addr × Obj)) (fp : List Addr) (R : Value → List (Addr × Obj) → Prop) (s : Shared) (fl : Flow) (s' : Shared) : Prop :=
  (∃ hh tk, s' = { s with heap := hh, toks := tk }) ∧ Done g L pre fp R (match fl with | .ret v => v | _ => .none) s'
theorem post_of {g hh : Heap} {L : Addr} {pre news' : List (Addr × Obj)} {fp : List Addr} {R : Value → List (Addr × Obj) → Prop} {s : Shared} {fl : Flow} {tk : Nat} {m' : Str → Option Value} (new : List (Addr × Obj)) (v : Value)
    (hv : (match fl with | .ret v => v | _ => .none) = v) (F : Fr g L hh m') (N : News g L hh news') (h1 : ∀ q ∈ new, q ∈ news') (h2 : ∀ q ∈ pre, q.1 ∉ fp → q ∈ news') (h3 : R v new) : Post g L pre fp R s fl { s with heap := hh, toks := tk } :=
  ⟨⟨_, _, rfl⟩, _, _, new, F, N, h1, h2, by rw [hv]; exact h3⟩

section
variable {w : World} {d : Nat} {f : Addr} {args : List Value} {pre : List (Addr × Obj)} {fp : List Addr} {R : Value → List (Addr × Obj) → Prop}
  {name qual : Str} {params : Arguments} {body : List Stmt} {scope : Scope} {dV kV doc pm cdv ct oc : Value} {an od : Option Addr} {osl : Array (Option Value)} {binds : List (Str × Value)}

/-- out of the callee's frame -/
theorem back {h₀ : Heap} {L : Addr} {s : Shared} (N : News h₀ L s.heap pre) (h : Heap) (m' : Str → Option Value) (news' new : List (Addr × Obj))
    (F' : Fr (hideAll s.heap (pre.map (·.1))) s.heap.objs.size h m') (N' : News (hideAll s.heap (pre.map (·.1))) s.heap.objs.size h news') (h1 : ∀ q ∈ new, q ∈ news') (h2 : ∀ q ∈ pre, q.1 ∉ fp → q ∈ news') :
    ExtBut fp s.heap h ∧ Fresh s.heap pre new := by
  refine ⟨fun b o hb e => ?_, fun q hq hn => ?_⟩
  · by_cases hm : b ∈ pre.map (·.1)
    · obtain ⟨q, hq, rfl⟩ := List.mem_map.mp hm
      have e1 := (N q hq).1
      rw [e] at e1
      cases e1
      exact (N' q (h2 q hq hb)).1
    · exact F'.keep b o (hideAll_get _ e hm)
  · have z := (N' q (h1 q hq)).2.2
    cases e : s.heap.get? q.1 with
    | none => rfl
    | some o => rw [hideAll_get _ e hn] at z; cases z

theorem tells_plain (ho : (fragK.heap_1 w.params).lookup f = some ⟨oc, od, .func (fnOf name qual params body scope dV kV doc pm an cdv ct), osl⟩) (hcd : codeIn (fragK.heap_1 w.params) cdv qual = true)
    (hbind : ∀ s, BindsTo s (fnOf name qual params body scope dV kV doc pm an cdv ct) ⟨args, []⟩ binds) (hloc : ∀ y ∈ binds, scope.names.lookup y.1 = some .local)
    (hcell : ∀ x ∈ scope.names, x.2 ≠ .cell) (hco : scope.isCoroutine = false) (hgen : scope.isGenerator = false) (hk : scope.kind = .function) (hd0 : 0 < d)
    (h : ∀ (p : Program) (loose : List Str) (mean : ExcName → Option Value) (mg mb : Str → Option Value) (dp un : Nat) (gd : Option (List Code)) (cn : Str) (cs : Scope) (L a : Addr) (ccd : Value) (cl : List (Str × Addr)) (outer : List Env) (base g : Heap) (L' : Addr) (s : Shared),
      Below (ktrTop dp un gd cn cs L a ccd cl outer) base (envX cn cs L a ccd cl :: outer) g → Fr g L' s.heap (fun y => binds.reverse.lookup y) → (fragK.heap_1 w.params).In g → News g L' s.heap pre → Top p loose mean mg mb g → dp + d < recursionLimit → un + 8 * d < cLine →
      wpAny (model PySem.Challenge.rw_pq1344_01.row.prog w) ((ktrTop dp un gd cn cs L a ccd cl outer).deeper (envOf qual scope L' f cdv)) (execs body (envOf qual scope L' f cdv))
        (Post g L' pre fp R s) (fun _ _ => False) s) : Tells w d f args pre fp R := by
  refine wo ?_
  simp (disch :=
  k_dflt (
  refine wk ?_
  intro p loose mean mg mb dp un gd cn cs a ccd cl outer A₀ base h₀ L m s Q E B F X N T hck hdp hun hret
  refine wpAny_call ?_
  obtain ⟨FG, BG, st, lv⟩ := groundX (A := ktrTop dp un gd cn cs L a ccd cl outer) (env := envX cn cs L a ccd cl) (R := fun r s' => ∀ v, r = .ok (.ret v) → Fr h₀ L s'.heap m) B F N rfl rfl hck
  refine codeAny_call_def (fd := fnOf name qual params body scope dV kV doc pm an cdv ct) (body := body) (binds := binds) (by show dp < recursionLimit; omega) ((X.keeps F.keep) _ _ ho) rfl (T.nolimit.keeps F.keep) (codeRec_of (X.keeps F.keep) hcd) rfl (hbind _) hcell hloc (fun h₁ hns hk₁ => ?_) hco hgen hk
  refine wpAny_mono (h p loose mean mg mb dp un gd cn cs L a ccd cl outer base _ s.heap.objs.size { s with heap := h₁, toks := s.toks + binds.length } BG ⟨hns, fun b o e => hk₁ b o (of_hideAll _ e), Nat.le_of_eq (hideAll_size _ _)⟩ (X.keeps st)
    (fun q hq => ⟨hk₁ _ _ (N q hq).1, Nat.ne_of_lt (Heap.lt_size (N q hq).1), hideAll_none _ (List.mem_map_of_mem hq)⟩) (T.keeps st) hdp hun) (fun fl s' hl => ?_) fun _ _ x => x.elim
  obtain ⟨⟨hh, tk, rfl⟩, m', news', new, F', N', h1, h2, h3⟩ := hl
  obtain ⟨e1, e2⟩ := back (fp := fp) N hh m' news' new F' N' h1 h2
  have F₁ : Fr h₀ L hh m := lv (match fl with | .ret v => v | _ => .none) { s with heap := hh, toks := tk } ⟨_, m', news', F', N', fun Fx _ v _ => Fx⟩ _ rfl
  have N₁ : News h₀ L hh new := fun q hq => by
    refine ⟨(N' q (h1 q hq)).1, fun z => ?_, ?_⟩
    · have z1 := (N' q (h1 q hq)).2.2
      obtain ⟨oL, _, _, hL, _⟩ := FG.ns
      rw [z, hL] at z1; cases z1
    · cases q1 : h₀.get? q.1 with
      | none => rfl
      | some o => have z1 := (N' q (h1 q hq)).2.2; rw [st _ _ q1] at z1; cases z1
  exact hret _ hh tk new F₁ N₁ e1 e2 h3
  )) only [↓wt]
end

section
variable {prog : Program} {w : World} {A : Around} {E : Value → Shared → Prop} {s : Shared} {h₀ : Heap} {L : Addr} {m : Str → Option Value} {news : List (Addr × Obj)}
/-- len of a list of the ledger whose items are a letter -/
theorem len_sym {l : Addr} {us : List Value} {n : Nat} {Q : Value → Shared → Prop} (N : News h₀ L s.heap news) (hm : (l, listOf us.toArray n) ∈ news) (hfit : us.length ≤ 100000)
    (h : Q (.int (us.length : Nat) (s.toks + 1)) { s with toks := s.toks + 1 + 1 }) : wpAny (model prog w) A (call (.builtin "len") [.ref l]) Q E s := by
  have hl : s.heap.IsList l us.toArray := ⟨_, (N _ hm).1, rfl, n, rfl⟩
  refine Calls.call_len_list hl (by rw [List.size_toArray]; omega) ?_
  rw [List.size_toArray]
  exact h
end
/-- by a contract: the call's goal -/
theorem tells_use {w : World} {d : Nat} {f : Addr} {args : List Value} {pre : List (Addr × Obj)} {fp : List Addr} {R : Value → List (Addr × Obj) → Prop}
    {p : Program} {loose : List Str} {mean : ExcName → Option Value} {mg mb : Str → Option Value} {dp un : Nat} {gd : Option (List Code)} {cn : Str} {cs : Scope} {a : Addr} {ccd : Value} {cl : List (Str × Addr)} {outer : List Env} {A₀ : Around} {base h₀ : Heap} {L : Addr} {m : Str → Option Value} {s : Shared} {Q E : Value → Shared → Prop} {news : List (Addr × Obj)}
    (C : Tells w d f args pre fp R) (B : Below A₀ base outer h₀) (F : Fr h₀ L s.heap m) (X : (fragK.heap_1 w.params).In h₀) (N : News h₀ L s.heap news) (hs : ∀ q ∈ pre, q ∈ news) (T : Top p loose mean mg mb h₀) (hk : cs.kind = .function) (hdp : dp + d < recursionLimit) (hun : un + 8 * d < cLine)
    (ret : ∀ r h' tk' new, Fr h₀ L h' m → News h₀ L h' new → ExtBut fp s.heap h' → Fresh s.heap pre new → R r new → Q r { s with heap := h', toks := tk' }) :
    wpAny (model PySem.Challenge.rw_pq1344_01.row.prog w) (ktrTop dp un gd cn cs L a ccd cl outer) (call (.ref f) args) Q E s :=
  C p loose mean mg mb dp un gd cn cs a ccd cl outer A₀ base h₀ L m s Q E B F X (fun q hq => N q (hs q hq)) T hk hdp hun ret
theorem news_ext {h₀ h h' : Heap} {L : Addr} {news : List (Addr × Obj)} (N : News h₀ L h news) (X : ExtBut [] h h') : News h₀ L h' news := fun q hq => ⟨X _ _ (List.not_mem_nil) (N q hq).1, (N q hq).2⟩
theorem news_extBut {h₀ h h' : Heap} {L : Addr} {fp : List Addr} {news : List (Addr × Obj)} (N : News h₀ L h news) (X : ExtBut fp h h') (hn : ∀ q ∈ news, q.1 ∉ fp) : News h₀ L h' news := fun q hq => ⟨X _ _ (hn q hq) (N q hq).1, (N q hq).2⟩
theorem news_app {h₀ h : Heap} {L : Addr} {n1 n2 : List (Addr × Obj)} (N1 : News h₀ L h n1) (N2 : News h₀ L h n2) : News h₀ L h (n1 ++ n2) := fun q hq => (List.mem_append.mp hq).elim (N1 q) (N2 q)
theorem fresh_ne {h₀ h : Heap} {L a : Addr} {news : List (Addr × Obj)} (N : News h₀ L h news) (e : h.get? a = none) : ∀ q ∈ news, q.1 ≠ a := fun q hq z => by
  have := (N q hq).1
  rw [z, e] at this; cases this
/-- a's place is none of the ledger's: as a conjunction -/
def AllNe (a : Addr) : List (Addr × Obj) → Prop
  | [] => True
  | p :: r => (@Ne Nat p.1 a) ∧ AllNe a r
theorem AllNe.of {a : Addr} : ∀ {l : List (Addr × Obj)}, (∀ q ∈ l, q.1 ≠ a) → AllNe a l
  | [], _ => trivial
  | _ :: _, h => ⟨h _ (.head _), AllNe.of fun q hq => h q (.tail _ hq)⟩
theorem AllNe.all {a : Addr} {l : List (Addr × Obj)} (h : AllNe a l) : ∀ q ∈ l, q.1 ≠ a := by
  induction l with
  | nil => exact fun q hq => nomatch hq
  | cons p r ih =>
    intro q hq
    rcases List.mem_cons.mp hq with rfl | hq
    · exact h.1
    · exact ih h.2 q hq
theorem AllNe.lt {a : Addr} : ∀ {l : List (Addr × Obj)}, AllLt a l → AllNe a l
  | [], _ => trivial
  | _ :: _, h => ⟨Nat.ne_of_lt h.1, AllNe.lt h.2⟩
/-- what is new stands apart from what was there -/
def Apart : List (Addr × Obj) → List (Addr × Obj) → Prop
  | [], _ => True
  | q :: r, news => AllNe q.1 news ∧ Apart r news
theorem Apart.of {news : List (Addr × Obj)} : ∀ {new : List (Addr × Obj)}, (∀ q ∈ new, ∀ p ∈ news, p.1 ≠ q.1) → Apart new news
  | [], _ => trivial
  | q :: _, h => ⟨AllNe.of (h q (.head _)), Apart.of fun p hp => h p (.tail _ hp)⟩
theorem Apart.all {news : List (Addr × Obj)} {new : List (Addr × Obj)} (h : Apart new news) : ∀ q ∈ new, ∀ p ∈ news, p.1 ≠ q.1 := by
  induction new with
  | nil => exact fun q hq => nomatch hq
  | cons a r ih =>
    intro q hq
    rcases List.mem_cons.mp hq with rfl | hq
    · exact h.1.all
    · exact ih h.2 q hq
/-- by a contract that leaves all as it was -/
theorem tells_call {w : World} {d : Nat} {f : Addr} {args : List Value} {pre : List (Addr × Obj)} {R : Value → List (Addr × Obj) → Prop}
    {p : Program} {loose : List Str} {mean : ExcName → Option Value} {mg mb : Str → Option Value} {dp un : Nat} {gd : Option (List Code)} {cn : Str} {cs : Scope} {a : Addr} {ccd : Value} {cl : List (Str × Addr)} {outer : List Env} {A₀ : Around} {base h₀ : Heap} {L : Addr} {m : Str → Option Value} {s : Shared} {Q E : Value → Shared → Prop} {news : List (Addr × Obj)}
    (C : Tells w d f args pre [] R) (hRn : ∀ r new, R r new → Apart new pre) (B : Below A₀ base outer h₀) (F : Fr h₀ L s.heap m) (X : (fragK.heap_1 w.params).In h₀) (N : News h₀ L s.heap news) (hs : ∀ q ∈ pre, q ∈ news) (T : Top p loose mean mg mb h₀) (hk : cs.kind = .function) (hdp : dp + d < recursionLimit) (hun : un + 8 * d < cLine)
    (ret : ∀ r h' tk' new, Fr h₀ L h' m → News h₀ L h' (new ++ news) → Apart new news → R r new → Q r { s with heap := h', toks := tk' }) :
    wpAny (model PySem.Challenge.rw_pq1344_01.row.prog w) (ktrTop dp un gd cn cs L a ccd cl outer) (call (.ref f) args) Q E s :=
  tells_use C B F X N hs T hk hdp hun fun r h' tk' new F' N' X' Y' hR => ret r h' tk' new F' (news_app N' (news_ext N X')) (Apart.of fun q hq => fresh_ne N (Y' q hq fun hm => by
    obtain ⟨p, hp, e⟩ := List.mem_map.mp hm
    exact (hRn r new hR).all q hq p hp e)) hR
/-- by a contract that turns one object -/
theorem tells_call1 {w : World} {d : Nat} {f c : Addr} {o : Obj} {args : List Value} {R : Value → List (Addr × Obj) → Prop} {g : Obj → List (Addr × Obj)}
    {p : Program} {loose : List Str} {mean : ExcName → Option Value} {mg mb : Str → Option Value} {dp un : Nat} {gd : Option (List Code)} {cn : Str} {cs : Scope} {a : Addr} {ccd : Value} {cl : List (Str × Addr)} {outer : List Env} {A₀ : Around} {base h₀ : Heap} {L : Addr} {m : Str → Option Value} {s : Shared} {Q E : Value → Shared → Prop} {news : List (Addr × Obj)}
    (C : Tells w d f args [(c, o)] [c] (fun v new => ∃ o', new = [(c, o')] ∧ R v new)) (B : Below A₀ base outer h₀) (F : Fr h₀ L s.heap m) (X : (fragK.heap_1 w.params).In h₀) (N : News h₀ L s.heap news) (U : UpdF c o news g) (T : Top p loose mean mg mb h₀) (hk : cs.kind = .function) (hdp : dp + d < recursionLimit) (hun : un + 8 * d < cLine)
    (ret : ∀ r h' tk' o', Fr h₀ L h' m → News h₀ L h' (g o') → R r [(c, o')] → Q r { s with heap := h', toks := tk' }) :
    wpAny (model PySem.Challenge.rw_pq1344_01.row.prog w) (ktrTop dp un gd cn cs L a ccd cl outer) (call (.ref f) args) Q E s := by
  refine wo ?_
  simp (disch :=
  k_dflt (
  refine wk ?_
  obtain ⟨own, rest, rfl, hg, h1, h2⟩ := U.split
  have hs : ∀ q ∈ [(c, o)], q ∈ own ++ (c, o) :: rest := fun q hq => by rw [List.mem_singleton.mp hq]; exact List.mem_append.mpr (.inr (.head _))
  refine tells_use C B F X N hs T hk hdp hun ?_
  intro r h' tk' new F' N' X' _ hR
  obtain ⟨o', rfl, hR⟩ := hR
  refine ret r h' tk' o' F' ?_ hR
  rw [hg]
  intro q hq
  rcases List.mem_append.mp hq with hq | hq
  · exact ⟨X' _ _ (fun z => h1 q hq (List.mem_singleton.mp z)) (N q (List.mem_append.mpr (.inl hq))).1, (N q (List.mem_append.mpr (.inl hq))).2⟩
  · rcases List.mem_cons.mp hq with rfl | hq
    · exact N' _ (.head _)
    · exact ⟨X' _ _ (fun z => h2 q hq (List.mem_singleton.mp z)) (N q (List.mem_append.mpr (.inr (.tail _ hq)))).1, (N q (List.mem_append.mpr (.inr (.tail _ hq)))).2⟩
  )) only [↓wt]
theorem ite_bf {p q : Prop} {b : Bool} (h : b = false) (hq : q) : if b = true then p else q := by rw [if_neg (by rw [h]; decide)]; exact hq
theorem ite_bt {p q : Prop} {b : Bool} (h : b = true) (hp : p) : if b = true then p else q := by rw [if_pos h]; exact hp
/-- the three kinds, by their rank -/
def kS : Nat → Str
  | 0 => Str.ofString "logical"
  | 1 => Str.ofString "integer"
  | _ => Str.ofString "character"
theorem three {i : Nat} (h : i < 3) : i = 0 ∨ i = 1 ∨ i = 2 := by omega
theorem kS_no {i : Nat} (h : i < 3) : (kS i == Str.ofString "pairlist") = false ∧ (kS i == Str.ofString "language") = false ∧ (kS i == Str.ofString "environment") = false ∧ (kS i == Str.ofString "NULL") = false ∧ (kS i == Str.ofString "list") = false ∧ (kS i == Str.ofString "expression") = false := by
  rcases three h with rfl | rfl | rfl <;> exact ⟨rfl, rfl, rfl, rfl, rfl, rfl⟩
/-- one entry of a dict keyed by texts -/
abbrev ent (P : Params) (x : Str) (t : Tok) (v : Value) : DictEntry := ⟨PyData.keyHash P x, .str x t, v⟩
/-- a Vector's own dict -/
abbrev vd (P : Params) (t1 t2 t3 t4 t5 : Tok) (kind items attrs shared loose : Value) : List DictEntry :=
  [ent P (Str.ofString "kind") t1 kind, ent P (Str.ofString "items") t2 items, ent P (Str.ofString "attrs") t3 attrs, ent P (Str.ofString "shared") t4 shared, ent P (Str.ofString "loose") t5 loose]
section
variable {prog : Program} {w : World} {A : Around} {E : Value → Shared → Prop} {s : Shared} {h₀ : Heap} {L : Addr} {m : Str → Option Value} {news : List (Addr × Obj)}
/-- d.get(x), d a dict of the ledger of which its pairs are known -/
theorem dict_at {da : Addr} {o : Obj} {kvs : List (Str × Value)} (N : News h₀ L s.heap news) (hm : (da, o) ∈ news) (hD : o.IsDictOf (strKind prog w) kvs) : s.heap.DictOf (strKind prog w) da kvs := Heap.dictOf_iff.mpr ⟨_, (N _ hm).1, hD⟩
theorem get_method {da : Addr} {o : Obj} {kvs : List (Str × Value)} {pl : Sem Bool} {Q : Value × List Value → Shared → Prop} (N : News h₀ L s.heap news) (hm : (da, o) ∈ news) (hD : o.IsDictOf (strKind prog w) kvs)
    (h : Q (.builtin "dict.get", [.ref da]) s) : wpAny (model prog w) A (getMethod (.ref da) (Str.ofString "get") pl) Q E s := by
  have hd := dict_at N hm hD
  exact getMethod_builtin hd.typeIs PySem.F.plainAttrs_dict PySem.F.slot_dict_get PySem.F.type_dict_get hd.mapOf.noDict h
theorem get_call {da : Addr} {o : Obj} {kvs : List (Str × Value)} {x : Str} {t : Tok} {Q : Value → Shared → Prop} (hlo : (da == sysModules) = false) (N : News h₀ L s.heap news) (hm : (da, o) ∈ news) (hD : o.IsDictOf (strKind prog w) kvs)
    (h : Q ((valueAt kvs x).getD .none) { s with toks := s.toks + 1 }) : wpAny (model prog w) A (call (.builtin "dict.get") [.ref da, .str x t]) Q E s := by
  have hd := dict_at N hm hD
  exact call_meetsIn PySem.F.slot_dict_get hd.typeIs PySem.F.entry_dict_get (PySem.F.args_dict_get_2 _ _) (meets_dict_get (strKind prog w) da (strKind_is prog w x t) hlo) ⟨_, hd.mapOf, h⟩
end
end
section
open PySem PySem.W PyProof.Rows PySem.Calls PySem.Spec
/-- the place of the first text y in a list of texts -/
def firstAt : List Value → Str → Option Nat
  | [], _ => none
  | .str z _ :: r, y => if z == y then some 0 else (firstAt r y).map (· + 1)
  | _ :: _, _ => none
theorem firstAt_spec : ∀ {us : List Value} {y : Str} {k : Nat}, firstAt us y = some k → k < us.length ∧ ∀ j x, us[j]? = some x → j ≤ k → ∃ z t, x = .str z t ∧ (j < k → z ≠ y) ∧ (j = k → z = y)
  | [], _, _, h => by cases h
  | .str z t :: r, y, k, h => by
    unfold firstAt at h
    by_cases e : (z == y) = true
    · rw [if_pos e] at h
      cases h
      refine ⟨Nat.succ_pos _, fun j x hx hj => ?_⟩
      obtain rfl : j = 0 := by omega
      cases hx
      exact ⟨z, t, rfl, fun q => absurd q (by omega), fun _ => eq_of_beq e⟩
    · rw [if_neg e] at h
      obtain ⟨k', hk', rfl⟩ := Option.map_eq_some_iff.mp h
      obtain ⟨h1, h2⟩ := firstAt_spec hk'
      refine ⟨Nat.succ_lt_succ h1, fun j x hx hj => ?_⟩
      cases j with
      | zero =>
        cases hx
        exact ⟨z, t, rfl, fun _ q => e (by rw [q]; exact beq_self_eq_true _), fun q => absurd q (by omega)⟩
      | succ j =>
        obtain ⟨z', t', e1, e2, e3⟩ := h2 j x (by simpa using hx) (by omega)
        exact ⟨z', t', e1, fun q => e2 (by omega), fun q => e3 (by omega)⟩
  | .none :: _, _, _, h => by cases h
  | .ellipsis :: _, _, _, h => by cases h
  | .notImplemented :: _, _, _, h => by cases h
  | .bool _ :: _, _, _, h => by cases h
  | .int _ _ :: _, _, _, h => by cases h
  | .float _ _ :: _, _, _, h => by cases h
  | .bytes _ _ :: _, _, _, h => by cases h
  | .type _ :: _, _, _, h => by cases h
  | .builtin _ :: _, _, _, h => by cases h
  | .ref _ :: _, _, _, h => by cases h
section
variable {prog : Program} {w : World} {A : Around} {E : Value → Shared → Prop} {s : Shared}
open PySem.Builtin PySem.Builtin.Tuple
/-- t.index(y): the place of the first text that is y -/
theorem tup_index {T : Addr} {o : Obj} {us : List Value} {n k : Nat} {y : Str} {u : Tok} {Q : Value → Shared → Prop} (ho : s.heap.get? T = some o) (hc : o.cls = .type "tuple") (hd : o.data = .seq us.toArray n)
    (hf : firstAt us y = some k) (h : Q (.int (k : Nat) s.toks) { s with toks := s.toks + 1 }) :
    wpAny (model prog w) A (call (.builtin "tuple.index") [.ref T, .str y u]) Q E s := by
  refine wo ?_
  simp (disch :=
  k_dflt (
  refine wk ?_
  obtain ⟨hk, hs⟩ := firstAt_spec hf
  refine call_meetsIn (S := fun _ R s' => s' = s ∧ R (.ok (.ret (.int (k : Nat) s.toks))) { s with toks := s.toks + 1 }) PySem.F.slot_tuple_index ⟨_, ho, hc⟩ PySem.F.entry_tuple_index (PySem.F.args_tuple_index_2 _ _) (.of_wp ?_) ⟨rfl, h⟩
  rintro A' R s' ⟨rfl, hR⟩
  show wpAny _ _ (tupleItemsOf (.ref T) >>= _) _ _ _
  unfold tupleItemsOf
  refine wpAny_bind (wpAny_bind (wpAny_seqItems ho hd (wpAny_pure ?_)))
  refine wpAny_bind (wpAny_pure (wpAny_bind (wpAny_pure ?_)))
  dsimp only
  rw [Std.Legacy.Range.forIn_eq_forIn_range']
  simp only [Std.Legacy.Range.size, Nat.sub_zero, Nat.add_sub_cancel, Nat.div_one, List.size_toArray, Nat.min_self]
  refine wpAny_bind ?_
  refine wpAny_forIn_list _ (fun rest q s₂ => s₂ = s' ∧ q = (none, ()) ∧ ∃ i, rest = List.range' i (us.length - i) ∧ i ≤ k) _ ?_ ?_ _ _ ⟨rfl, rfl, 0, by simp, Nat.zero_le _⟩
  · rintro x rest q s₂ ⟨rfl, rfl, i, hr, hi⟩
    have hlt : i < us.length := Nat.lt_of_le_of_lt hi hk
    obtain ⟨rfl, hrest⟩ : x = i ∧ rest = List.range' (i + 1) (us.length - (i + 1)) := by
      have e : us.length - i = (us.length - (i + 1)) + 1 := by omega
      rw [e, List.range'_succ] at hr
      injection hr with h1 h2
      exact ⟨h1, h2⟩
    have hx : us.toArray[x]? = some us[x] := by simp [hlt]
    obtain ⟨z, t, e, h1, h2⟩ := hs x us[x] (by simp [hlt]) hi
    rw [hx, e]
    dsimp only
    refine wpAny_bind (wpAny_eqBool_str ?_)
    by_cases hxk : x = k
    · rw [if_pos (by simpa using h2 hxk)]
      refine wpAny_bind (wpAny_bind (wpAny_mkInt (wpAny_pure (wpAny_pure ?_))))
      subst hxk
      exact wpAny_pure ⟨_, rfl, hR⟩
    · rw [if_neg (by simpa using h1 (by omega))]
      exact wpAny_pure ⟨rfl, rfl, x + 1, hrest, by omega⟩
  · rintro q s₂ ⟨rfl, rfl, i, hr, hi⟩
    have hlt : i < us.length := Nat.lt_of_le_of_lt hi hk
    have e : us.length - i = (us.length - (i + 1)) + 1 := by omega
    rw [e, List.range'_succ] at hr
    exact nomatch hr
  )) only [↓wt]
variable {h₀ : Heap} {L : Addr} {news : List (Addr × Obj)}
theorem tup_index_K {T : Addr} {us : List Value} {n k : Nat} {y : Str} {u : Tok} {Q : Value → Shared → Prop} (N : News h₀ L s.heap news) (hm : (T, ({ cls := .type "tuple", data := .seq us.toArray n } : Obj)) ∈ news) (hf : firstAt us y = some k)
    (h : Q (.int (k : Nat) s.toks) { s with toks := s.toks + 1 }) : wpAny (model prog w) A (call (.builtin "tuple.index") [.ref T, .str y u]) Q E s := tup_index (N _ hm).1 rfl rfl hf h
theorem tup_method {T : Addr} {us : Array Value} {n : Nat} {pl : Sem Bool} {Q : Value × List Value → Shared → Prop} (N : News h₀ L s.heap news) (hm : (T, ({ cls := .type "tuple", data := .seq us n } : Obj)) ∈ news)
    (h : Q (.builtin "tuple.index", [.ref T]) s) : wpAny (model prog w) A (getMethod (.ref T) (Str.ofString "index") pl) Q E s :=
  getMethod_builtin ⟨_, (N _ hm).1, rfl⟩ PySem.F.plainAttrs_tuple PySem.F.slot_tuple_index PySem.F.type_tuple_index (fun a e => by cases e; exact ⟨_, (N _ hm).1, rfl⟩) h
/-- an item of a written tuple of texts at a place that the cases tell -/
theorem tup_item {value slice : Expr} {T : Addr} {l : List Value} {n : Nat} {k : Int} {u : Tok} {y : Str} {Q : Value → Shared → Prop} (N : News h₀ L s.heap news) (hm : (T, ({ cls := .type "tuple", data := .seq l.toArray n } : Obj)) ∈ news)
    (hx : ∃ j t, -(2 ^ 63) ≤ k ∧ k < 2 ^ 63 ∧ seqIndex? k l.length = some j ∧ l[j]? = some (.str y t)) (h : ∀ t, Q (.str y t) s)
    (hs : subscripted slice false (.ref T) (.int k u) = operate [.ref T, .int k u] (getItem (.ref T) (.int k u)) := by with_unfolding_all rfl) :
    wpAny (model prog w) A (subscriptTail value slice (.ref T) (.int k u)) Q E s := by
  obtain ⟨j, t, h1, h2, h3, h4⟩ := hx
  exact item_tupleT ⟨_, (N _ hm).1, rfl, n, rfl⟩ h1 h2 h3 h4 (h t) hs
end
end
section
open PySem PySem.W PyProof.Rows PySem.Calls PySem.Spec
set_option maxRecDepth 100000
theorem rangeKs_at {n j : Nat} (h : j < n) : (rangeKs 0 n).getD j 0 = (j : Int) := by
  simp [rangeKs, h]
theorem rangeKs_toNat {n j : Nat} (h : j < n) : (rangeKs 0 n).getD ((j : Int)).toNat 0 = (j : Int) := by
  rw [Int.toNat_natCast]; exact rangeKs_at h
theorem rng_small {b : Int} (h0 : 0 ≤ b) (h : b ≤ 100000) : Builtin.Range.small 0 b 1 = true := small_one (by decide) (by decide) (by omega) (by omega)
theorem rng_size {n : Nat} : Builtin.Range.rangeSize 0 (n : Int) 1 = (n : Int) := by rw [rangeSize_one]; split <;> omega
theorem rng_size' {b : Int} (h : 0 ≤ b) : Builtin.Range.rangeSize 0 b 1 = ((b.toNat : Nat) : Int) := by rw [rangeSize_one]; split <;> omega
theorem fmod_toNat (j n : Nat) : (Int.fmod (j : Int) (n : Int)).toNat = j % n := by
  rw [Int.fmod_eq_emod_of_nonneg _ (Int.natCast_nonneg n), ← Int.natCast_emod, Int.toNat_natCast]
theorem ints_range : ∀ {us : List Value} {ns : List Int}, IntsAre us ns → ∀ {j : Nat}, j < ns.length → ∃ t, us[j]? = some (.int (ns.getD j 0) t) := by
  intro us ns h
  induction h with
  | nil => intro j hj; exact absurd hj (Nat.not_lt_zero _)
  | cons =>
    rename_i ih
    intro j hj
    cases j with
    | zero => exact ⟨_, rfl⟩
    | succ j => obtain ⟨t', e⟩ := ih (Nat.lt_of_succ_lt_succ hj); exact ⟨t', by simpa using e⟩

/-- what a turn of a loop hands on -/
def LoopP (h₀ : Heap) (L : Addr) (J : (Str → Option Value) → List (Addr × Obj) → Prop) (own : List (Addr × Obj)) (s₁ : Shared) (Q : Flow → Shared → Prop) (fl : Flow) (s₂ : Shared) : Prop := InvPostG h₀ L J own s₁ Q fl s₂
section
variable {h₀ h' : Heap} {L : Addr} {J : (Str → Option Value) → List (Addr × Obj) → Prop} {own news' nx : List (Addr × Obj)} {s₁ s₂ : Shared} {Q : Flow → Shared → Prop} {m' : Str → Option Value} {tk : Nat} {fl : Flow}
theorem loopP_next (hfl : fl = .next ∨ fl = .cont) (F : Fr h₀ L h' m') (N : News h₀ L h' news') (hj : J m' nx) (ha : OwnOff own (nx.map (·.1))) (hn : ∀ p ∈ nx, p ∈ news') (ho : ∀ p ∈ own, p ∈ news') :
    LoopP h₀ L J own s₁ Q fl { s₁ with heap := h', toks := tk } := by
  rcases hfl with rfl | rfl <;> exact InvEndG.intro F N hj ha hn ho
theorem loopP_brk (h : Q .next s₂) : LoopP h₀ L J own s₁ Q .brk s₂ := h
end
section
variable {prog : Program} {w : World} {A : Around} {E : Value → Shared → Prop} {s : Shared} {env : Env} {h₀ : Heap} {x : Str} {body : List Stmt} {Q : Flow → Shared → Prop} {m₀ : Str → Option Value} {news : List (Addr × Obj)}
theorem loop_list {l : Addr} {vs : List Value} {nn : Nat} (nx₀ : List (Addr × Obj)) (J : Nat → (Str → Option Value) → List (Addr × Obj) → Prop)
    (hh : A.handled = none) (hJl : ∀ i m nx, J i m nx → (l, listOf vs.toArray nn) ∈ nx) (F : Fr h₀ env.locals s.heap m₀) (N : News h₀ env.locals s.heap news) (hs : ∀ p ∈ nx₀, p ∈ news) (hj : J 0 m₀ nx₀)
    (turn : ∀ i v m₁ nx h tk own, vs[i]? = some v → OwnOff own (nx.map (·.1)) → J i m₁ nx → Fr h₀ env.locals h (fun y => if y = x then some v else m₁ y) → News h₀ env.locals h (nx ++ own) →
      wpAny (model prog w) A (execs body env) (LoopP h₀ env.locals (J (i + 1)) own { s with heap := h, toks := tk } Q) E { s with heap := h, toks := tk })
    (done : ∀ m₁ nx h tk, J vs.length m₁ nx → Fr h₀ env.locals h m₁ → News h₀ env.locals h nx → Q .next { s with heap := h, toks := tk }) :
    wpAny (model prog w) A (pyIter (.ref l)) (fun it s₂ => LoopAtV prog w A h₀ env x body Q E it s₂) E s := by
  refine wo ?_
  simp (disch :=
  k_dflt (
  refine wk ?_
  refine kdl_iter (news := nx₀) J hh (hJl _ _ _ hj) F (fun p hp => N p (hs p hp)) hj ?_ done
  intro i v m₁ nx h tk own hv ho _ hJ F' N'
  refine wpAny_mono (turn i v m₁ nx h tk own hv ho hJ F' N') (fun fl s₂ p => ?_) fun _ _ e => e
  have up : InvEndG h₀ env.locals (J (i + 1)) own { s with heap := h, toks := tk } s₂ → InvEndG h₀ env.locals (fun m' nx => (l, listOf vs.toArray nn) ∈ nx ∧ J (i + 1) m' nx) own { s with heap := h, toks := tk } s₂ := by
    rintro ⟨a, b, c, d, e, p1, p2, p3, p4, p5, p6, p7⟩
    exact ⟨a, b, c, d, e, p1, p2, p3, p4, p5, p6, hJl _ _ _ p7, p7⟩
  cases fl with
  | ret v => exact p
  | brk => exact p
  | next => exact up p
  | cont => exact up p
  )) only [↓wt]
theorem loop_range {r : Addr} {b₀ : Int} {t₀ u₀ v₀ : Tok} {n : Nat} (nx₀ : List (Addr × Obj)) (J : Nat → (Str → Option Value) → List (Addr × Obj) → Prop)
    (hh : A.handled = none) (hr : IsRange s.heap r 0 b₀ 1 t₀ u₀ v₀) (hsmall : Builtin.Range.small 0 b₀ 1 = true) (hsz : Builtin.Range.rangeSize 0 b₀ 1 = (n : Int)) (F : Fr h₀ env.locals s.heap m₀) (N : News h₀ env.locals s.heap news) (hs : ∀ p ∈ nx₀, p ∈ news) (hj : J 0 m₀ nx₀)
    (turn : ∀ i t m₁ nx h tk own, i < n → OwnOff own (nx.map (·.1)) → J i m₁ nx → Fr h₀ env.locals h (fun y => if y = x then some (.int (i : Int) t) else m₁ y) → News h₀ env.locals h (nx ++ own) →
      wpAny (model prog w) A (execs body env) (LoopP h₀ env.locals (J (i + 1)) own { s with heap := h, toks := tk } Q) E { s with heap := h, toks := tk })
    (done : ∀ m₁ nx h tk, J n m₁ nx → Fr h₀ env.locals h m₁ → News h₀ env.locals h nx → Q .next { s with heap := h, toks := tk }) :
    wpAny (model prog w) A (pyIter (.ref r)) (fun it s₂ => LoopAtV prog w A h₀ env x body Q E it s₂) E s := by
  refine wo ?_
  simp (disch :=
  k_dflt (
  refine wk ?_
  refine wpAny_pyIter_range hr hsmall ?_
  have W : Walks prog w A s.heap.objs.size [s.heap.objs.size] [s.heap.objs.size] n (fun i v => ∃ t, v = .int (0 + i * 1) t)
      (fun i h => IsRangeIter h s.heap.objs.size (0 + (i : Nat) * 1) ((n : Int) - (i : Nat)) 1) := Walks.range hh _ 0 1 n
  refine kdr_loop (news := nx₀) J W (fun _ h => h) (fun _ h => h) ?_ ?_ ?_ ?_ (by show IsRangeIter _ _ _ _ _; rw [hsz]; simpa using Heap.get?_push_size _ rfl) (F.push _) (fun p hp => ⟨Heap.get?_push_of_some _ (N p (hs p hp)).1, (N p (hs p hp)).2⟩) hj ?_ done
  · intro i h hi b hb
    rw [List.mem_singleton.mp hb]
    exact ⟨_, hi⟩
  · intro hm
    exact absurd F.ns.lt ((List.mem_singleton.mp hm) ▸ Nat.lt_irrefl _)
  · intro b hb
    rw [List.mem_singleton.mp hb]
    exact next_is_new F
  · intro p hp hI
    exact absurd (Heap.lt_size (N p (hs p hp)).1) ((List.mem_singleton.mp hI) ▸ Nat.lt_irrefl _)
  · rintro i v m₁ nx h tk own hi ⟨t, rfl⟩ hoff hJ F₁ N₁
    have e1 : (0 : Int) + (i : Int) * 1 = (i : Int) := by omega
    rw [e1] at F₁
    exact turn i t m₁ nx h tk own hi hoff hJ F₁ N₁
  )) only [↓wt]
end
section
variable {prog : Program} {w : World} {A : Around} {E : Value → Shared → Prop} {s : Shared} {h₀ : Heap} {L : Addr} {m : Str → Option Value} {news : List (Addr × Obj)}
theorem getD_some {us : List Value} {j : Nat} (h : j < us.length) : us[j]? = some (us.getD j .none) := by
  simp [h]
/-- an item of a ledger list -/
theorem item_any {value slice : Expr} {l : Addr} {us : List Value} {n : Nat} {k : Int} {u : Tok} {Q : Value → Shared → Prop} (N : News h₀ L s.heap news) (hm : (l, listOf us.toArray n) ∈ news) (h0 : 0 ≤ k) (h1 : k < us.length) (hfit : us.length ≤ 100000)
    (h : Q (us.getD k.toNat .none) s) (hs : subscripted slice false (.ref l) (.int k u) = operate [.ref l, .int k u] (getItem (.ref l) (.int k u)) := by with_unfolding_all rfl) :
    wpAny (model prog w) A (subscriptTail value slice (.ref l) (.int k u)) Q E s := by
  have hl : s.heap.IsList l us.toArray := ⟨_, (N _ hm).1, rfl, n, rfl⟩
  refine tail_any hl.typeIs slot_list_getitem.lookup (wpAny_getItem_list hl h0 (by omega) (x := us.getD k.toNat .none) ?_ h) hs
  rw [List.getElem?_toArray]
  exact getD_some (by omega)
/-- l[k] = v, l a list of the ledger -/
theorem set_any {l : Addr} {us : List Value} {n j : Nat} {k : Int} {u : Tok} {v : Value} {g : Obj → List (Addr × Obj)} {Q : Unit → Shared → Prop} (F : Fr h₀ L s.heap m) (N : News h₀ L s.heap news) (U : UpdF l (listOf us.toArray n) news g) (hk : k = (j : Int)) (hj : j < us.length) (hfit : us.length ≤ 100000)
    (h : ∀ h', Fr h₀ L h' m → News h₀ L h' (g (listOf (us.set j v).toArray n)) → Q () { s with heap := h' }) :
    wpAny (model prog w) A (setItem (.ref l) (.int k u) v) Q E s := by
  refine wo ?_
  simp (disch :=
  k_dflt (
  refine wk ?_
  have hk0 : 0 ≤ k := by omega
  have hk1 : k < 2 ^ 63 := by omega
  obtain ⟨pre, post, rfl, hg, h1, h2⟩ := U.split
  have hm : (l, listOf us.toArray n) ∈ pre ++ (l, listOf us.toArray n) :: post := List.mem_append.mpr (.inr (.head _))
  have ho := (N _ hm).1
  have hl : s.heap.IsList l us.toArray := ⟨_, ho, rfl, n, rfl⟩
  have hlt : j < us.toArray.size := by rw [List.size_toArray]; exact hj
  unfold setItem
  try with_reducible refine wpAny_holding ?_
  first | refine wpAny_bind (wpAny_pure ?_) | skip
  refine wpAny_bind (wpAny_sequenceKey hl.typeIs (by decide) ?_)
  refine wpAny_bind (wpAny_callSpecial?_slot (name := Str.ofString "__setitem__") hl.typeIs slot_list_setitem
    (wpAny_call_entry slot_list_setitem hl.typeIs entry_list_setitem ?_ (args_list_setitem _ _ _)))
  show wpAny _ _ (Builtin.List.listSubscript? (.int k u) >>= _) _ _ s
  refine wpAny_bind (wpAny_listSubscript_int (fitsIndex_of hk0 hk1) ?_)
  clear hk0 hk1
  subst hk
  have hx' : us.toArray[j]? = some us.toArray[j] := Array.getElem?_eq_getElem hlt
  show wpAny _ _ ((seqItemAt l j >>= fun r => pure (r.map (j, ·))) >>= _) _ _ s
  refine wpAny_bind (wpAny_bind (wpAny_seqItemAt ho rfl (wpAny_pure ?_)))
  rw [hx']
  show wpAny _ _ (setSeqItemAt l j v >>= _) _ _ s
  have hget : (s.heap.update l (Obj.mapSeq (·.setIfInBounds j v))).get? l = some (listOf (us.set j v).toArray n) := by
    rw [Heap.get?_update_self _ ho rfl]
    simp [Obj.mapSeq]
  have hoth : ∀ b, b ≠ l → (s.heap.update l (Obj.mapSeq (·.setIfInBounds j v))).get? b = s.heap.get? b := fun b hb => Heap.get?_update_other _ _ (Ne.symm hb)
  have F' : Fr h₀ L (s.heap.update l (Obj.mapSeq (·.setIfInBounds j v))) m := by
    obtain ⟨oL, a1, a2, hL, a3⟩ := F.ns
    exact ⟨⟨oL, a1, a2, (hoth _ (fun e => (N _ hm).2.1 e.symm)).trans hL, a3⟩, fun b o e => (hoth b fun q => by have := (N _ hm).2.2; rw [q] at e; rw [e] at this; cases this).trans (F.keep b o e), F.above⟩
  have N' : News h₀ L (s.heap.update l (Obj.mapSeq (·.setIfInBounds j v))) (g (listOf (us.set j v).toArray n)) := by
    rw [hg]
    intro q hq
    rcases List.mem_append.mp hq with hq | hq
    · have z := N q (List.mem_append.mpr (.inl hq)); exact ⟨(hoth _ (h1 q hq)).trans z.1, z.2⟩
    · rcases List.mem_cons.mp hq with rfl | hq
      · exact ⟨hget, (N _ hm).2⟩
      · have z := N q (List.mem_append.mpr (.inr (.tail _ hq))); exact ⟨(hoth _ (h2 q hq)).trans z.1, z.2⟩
  refine wpAny_bind (wpAny_setSeqItemAt ho rfl ?_)
  first
    | exact wpAny_bind (wpAny_pure (wpAny_pure ⟨.none, rfl, wpAny_pure (h _ F' N')⟩))
    | exact wpAny_pure ⟨.none, rfl, wpAny_pure (h _ F' N')⟩
  )) only [↓wt]
end
/-- the first j items repeated and cut from ws, the others as they were -/
def mixed (us ws : List Value) (j : Nat) : List Value := (List.range j).map (fun i => ws.getD (i % ws.length) .none) ++ us.drop j
theorem mixed_zero (us ws : List Value) : mixed us ws 0 = us := by simp [mixed]
theorem mixed_length {us ws : List Value} {j : Nat} (h : j ≤ us.length) : (mixed us ws j).length = us.length := by simp [mixed]; omega
theorem mixed_set {us ws : List Value} {j : Nat} (h : j < us.length) : (mixed us ws j).set j (ws.getD (j % ws.length) .none) = mixed us ws (j + 1) := by
  unfold mixed
  rw [List.range_succ, List.map_append, List.set_append_right _ _ (by simp)]
  have e : us.drop j = us[j] :: us.drop (j + 1) := List.drop_eq_getElem_cons h
  rw [e]
  simp only [List.length_map, List.length_range, Nat.sub_self, List.set_cons_zero, List.map_cons, List.map_nil, List.append_assoc, List.cons_append, List.nil_append]
theorem mixed_full {us ws : List Value} : mixed us ws us.length = (List.range us.length).map (fun i => ws.getD (i % ws.length) .none) := by simp [mixed]
end
section
open PySem PySem.W PyProof.Rows PySem.Calls PySem.Spec
set_option maxRecDepth 100000
section
variable {w : World} {d : Nat} {f : Addr} {args : List Value} {pre : List (Addr × Obj)} {fp : List Addr} {R : Value → List (Addr × Obj) → Prop}
  {name qual : Str} {params : Arguments} {body : List Stmt} {scope : Scope} {dV kV doc pm cdv ct oc : Value} {an od : Option Addr} {osl : Array (Option Value)} {binds : List (Str × Value)}
/-- into a def some of whose names are cells -/
theorem tells_cells (ho : (fragK.heap_1 w.params).lookup f = some ⟨oc, od, .func (fnOf name qual params body scope dV kV doc pm an cdv ct), osl⟩) (hcd : codeIn (fragK.heap_1 w.params) cdv qual = true)
    (hbind : ∀ s : Shared, (fragK.heap_1 w.params).In s.heap → BindsTo s (fnOf name qual params body scope dV kV doc pm an cdv ct) ⟨args, []⟩ binds) (hkind : (binds.all fun y => scope.names.lookup y.1 == some .local || scope.names.lookup y.1 == some .cell) = true)
    (hnd : ((cellsFrom 0 scope.names []).map (·.1)).Nodup) (hco : scope.isCoroutine = false) (hgen : scope.isGenerator = false) (hk : scope.kind = .function) (hd0 : 0 < d)
    (h : ∀ (p : Program) (loose : List Str) (mean : ExcName → Option Value) (mg mb : Str → Option Value) (dp un : Nat) (gd : Option (List Code)) (cn : Str) (cs : Scope) (L a : Addr) (ccd : Value) (cl : List (Str × Addr)) (outer : List Env) (base g : Heap) (L' : Addr) (s : Shared) (cells : List (Addr × Obj)),
      Below (ktrTop dp un gd cn cs L a ccd cl outer) base (envX cn cs L a ccd cl :: outer) g → Fr g L' s.heap (bindL (envOfC qual scope L' f cdv).kindOf binds fun _ => none) → (fragK.heap_1 w.params).In g → News g L' s.heap (cells ++ pre) →
      CellsAre (bindC (envOfC qual scope L' f cdv).kindOf binds fun _ => none) (cellsFrom (L' + 1) scope.names []) cells → AllLt L' pre → Top p loose mean mg mb g → dp + d < recursionLimit → un + 8 * d < cLine →
      wpAny (model PySem.Challenge.rw_pq1344_01.row.prog w) ((ktrTop dp un gd cn cs L a ccd cl outer).deeper (envOfC qual scope L' f cdv)) (execs body (envOfC qual scope L' f cdv))
        (Post g L' pre fp R s) (fun _ _ => False) s) : Tells w d f args pre fp R := by
  refine wo ?_
  simp (disch :=
  k_dflt (
  refine wk ?_
  intro p loose mean mg mb dp un gd cn cs a ccd cl outer A₀ base h₀ L m s Q E B F X N T hck hdp hun hret
  refine wpAny_call ?_
  obtain ⟨FG, BG, st, lv⟩ := groundX (A := ktrTop dp un gd cn cs L a ccd cl outer) (env := envX cn cs L a ccd cl) (R := fun r s' => ∀ v, r = .ok (.ret v) → Fr h₀ L s'.heap m) B F N rfl rfl hck
  refine codeAny_call_function (fd := fnOf name qual params body scope dV kV doc pm an cdv ct) (body := body) (by show dp < recursionLimit; omega) ((X.keeps F.keep) _ _ ho) rfl hco hgen rfl (codeRec_of (X.keeps F.keep) hcd) (hbind _ (X.keeps F.keep) _ _ _ _ ?_)
  refine wpAny_newFunctionEnv_cells hk (kindsX hkind _) fun env' he s' x => ?_
  subst he
  refine ⟨(T.nolimit.keeps F.keep).keeps x.toInCall.keep, codeAny_func ?_⟩
  obtain ⟨h₁, tk, rfl, _⟩ := x.done
  have hk₁ := x.toInCall.keep
  obtain ⟨cells, NC, Y⟩ := Cl.news (h₀ := s.heap) (Nat.le_refl _) fun n c hm => ⟨x.cell n c (lookup_of_mem_nodup (cellsFrom_names scope.names 0 (s.heap.objs.size + 1) [] [] rfl ▸ hnd) hm), x.above n c hm⟩
  refine wpAny_mono (h p loose mean mg mb dp un gd cn cs L a ccd cl outer base _ s.heap.objs.size { s with heap := h₁, toks := tk } cells BG ⟨x.toInCall.ns, fun b o e => hk₁ b o (of_hideAll _ e), Nat.le_of_eq (hideAll_size _ _)⟩ (X.keeps st)
    (fun q hq => ?_) Y (allLt_of fun q hq => Heap.lt_size (N q hq).1) (T.keeps st) hdp hun) (fun fl s' hl => ?_) fun _ _ x => x.elim
  · rcases List.mem_append.mp hq with hq | hq
    · refine ⟨(NC q hq).1, (NC q hq).2.1, ?_⟩
      cases z : (hideAll s.heap (pre.map (·.1))).get? q.1 with
      | none => rfl
      | some o => have := of_hideAll _ z; rw [(NC q hq).2.2] at this; cases this
    · exact ⟨hk₁ _ _ (N q hq).1, Nat.ne_of_lt (Heap.lt_size (N q hq).1), hideAll_none _ (List.mem_map_of_mem hq)⟩
  obtain ⟨⟨hh, tk, rfl⟩, m', news', new, F', N', h1, h2, h3⟩ := hl
  obtain ⟨e1, e2⟩ := back (fp := fp) N hh m' news' new F' N' h1 h2
  have F₁ : Fr h₀ L hh m := lv (match fl with | .ret v => v | _ => .none) { s with heap := hh, toks := tk } ⟨_, m', news', F', N', fun Fx _ v _ => Fx⟩ _ rfl
  have N₁ : News h₀ L hh new := fun q hq => by
    refine ⟨(N' q (h1 q hq)).1, fun z => ?_, ?_⟩
    · have z1 := (N' q (h1 q hq)).2.2
      obtain ⟨oL, _, _, hL, _⟩ := FG.ns
      rw [z, hL] at z1; cases z1
    · cases q1 : h₀.get? q.1 with
      | none => rfl
      | some o => have z1 := (N' q (h1 q hq)).2.2; rw [st _ _ q1] at z1; cases z1
  exact hret _ hh tk new F₁ N₁ e1 e2 h3
  )) only [↓wt]
/-- a contract stands over a larger ledger too, and may keep less -/
theorem tells_weak {pre' : List (Addr × Obj)} {R' : Value → List (Addr × Obj) → Prop} (C : Tells w d f args pre fp R) (hs : ∀ q ∈ pre, q ∈ pre') (hR : ∀ v new, R v new → ∃ new', (∀ q ∈ new', q ∈ new) ∧ R' v new') : Tells w d f args pre' fp R' := by
  refine wo ?_
  simp (disch :=
  k_dflt (
  refine wk ?_
  intro p loose mean mg mb dp un gd cn cs a ccd cl outer A₀ base h₀ L m s Q E B F X N T hck hdp hun hret
  refine C p loose mean mg mb dp un gd cn cs a ccd cl outer A₀ base h₀ L m s Q E B F X (fun q hq => N q (hs q hq)) T hck hdp hun fun r h' tk' new F' N' X' Y' hR' => ?_
  obtain ⟨new', hsub, hR''⟩ := hR r new hR'
  exact hret r h' tk' new' F' (fun q hq => N' q (hsub q hq)) X' (fun q hq hm => Y' q (hsub q hq) fun z => hm (by obtain ⟨x, hx, e⟩ := List.mem_map.mp z; exact List.mem_map.mpr ⟨x, hs x hx, e⟩)) hR''
  )) only [↓wt]
end
theorem AllNe.at {a q : Addr} {o : Obj} {l : List (Addr × Obj)} (h : AllNe a l) (hm : (q, o) ∈ l) : @Ne Nat q a := h.all _ hm
theorem Apart.at {p q : Addr} {o o' : Obj} {new news : List (Addr × Obj)} (h : Apart new news) (hq : (q, o) ∈ new) (hp : (p, o') ∈ news) : @Ne Nat p q := h.all _ hq _ hp
theorem Apart.sub {new news new' news' : List (Addr × Obj)} (h : Apart new news) (h1 : ∀ q ∈ new', q ∈ new) (h2 : ∀ q ∈ news', q ∈ news) : Apart new' news' := Apart.of fun q hq p hp => h.all q (h1 q hq) p (h2 p hp)
theorem Apart.subA {new news new' news' : List (Addr × Obj)} (h : Apart new news) (h1 : new'.map (·.1) = new.map (·.1)) (h2 : ∀ q ∈ news', q ∈ news) : Apart new' news' := Apart.of fun q hq p hp => by
  have : q.1 ∈ new.map (·.1) := h1 ▸ List.mem_map_of_mem hq
  obtain ⟨r, hr, e⟩ := List.mem_map.mp this
  rw [← e]
  exact h.all r hr p (h2 p hp)
/-- by a contract that turns one object and leaves new ones -/
theorem tells_callU {w : World} {d : Nat} {f c : Addr} {o : Obj} {args : List Value} {pre : List (Addr × Obj)} {R : Value → Obj → List (Addr × Obj) → Prop} {g : Obj → List (Addr × Obj)}
    {p : Program} {loose : List Str} {mean : ExcName → Option Value} {mg mb : Str → Option Value} {dp un : Nat} {gd : Option (List Code)} {cn : Str} {cs : Scope} {a : Addr} {ccd : Value} {cl : List (Str × Addr)} {outer : List Env} {A₀ : Around} {base h₀ : Heap} {L : Addr} {m : Str → Option Value} {s : Shared} {Q E : Value → Shared → Prop} {news : List (Addr × Obj)}
    (C : Tells w d f args pre [c] (fun v new => ∃ o' nw, new = (c, o') :: nw ∧ Apart nw pre ∧ R v o' nw)) (B : Below A₀ base outer h₀) (F : Fr h₀ L s.heap m) (X : (fragK.heap_1 w.params).In h₀) (N : News h₀ L s.heap news) (hs : ∀ q ∈ pre, q ∈ news) (U : UpdF c o news g) (T : Top p loose mean mg mb h₀) (hk : cs.kind = .function) (hdp : dp + d < recursionLimit) (hun : un + 8 * d < cLine)
    (ret : ∀ r h' tk' o' nw, Fr h₀ L h' m → News h₀ L h' (nw ++ g o') → Apart nw news → R r o' nw → Q r { s with heap := h', toks := tk' }) :
    wpAny (model PySem.Challenge.rw_pq1344_01.row.prog w) (ktrTop dp un gd cn cs L a ccd cl outer) (call (.ref f) args) Q E s := by
  refine wo ?_
  simp (disch :=
  k_dflt (
  refine wk ?_
  obtain ⟨own, rest, rfl, hg, h1, h2⟩ := U.split
  refine tells_use C B F X N hs T hk hdp hun ?_
  intro r h' tk' new F' N' X' Y' hR
  obtain ⟨o', nw, rfl, hA, hR⟩ := hR
  have off : ∀ q ∈ nw, ∀ p ∈ own ++ (c, o) :: rest, p.1 ≠ q.1 := fun q hq => fresh_ne N (Y' q (.tail _ hq) fun hm => by
    obtain ⟨p, hp, e⟩ := List.mem_map.mp hm
    exact hA.all q hq p hp e)
  refine ret r h' tk' o' nw F' (news_app (fun q hq => N' q (.tail _ hq)) ?_) (Apart.of off) hR
  rw [hg]
  intro q hq
  rcases List.mem_append.mp hq with hq | hq
  · exact ⟨X' _ _ (fun z => h1 q hq (List.mem_singleton.mp z)) (N q (List.mem_append.mpr (.inl hq))).1, (N q (List.mem_append.mpr (.inl hq))).2⟩
  · rcases List.mem_cons.mp hq with rfl | hq
    · exact N' _ (.head _)
    · exact ⟨X' _ _ (fun z => h2 q hq (List.mem_singleton.mp z)) (N q (List.mem_append.mpr (.inr (.tail _ hq)))).1, (N q (List.mem_append.mpr (.inr (.tail _ hq)))).2⟩
  )) only [↓wt]
end
section
open PySem PySem.W PyProof.Rows PySem.Calls PySem.Spec
set_option maxRecDepth 100000
/-- what a turn of a comprehension hands on -/
def CmpP (h₀ : Heap) (L : Addr) (m : Str → Option Value) (s : Shared) (I : Addr) (oI : Obj) (C : Addr) (oC : Obj) (D : Addr) (oD : Obj) (S : List (Addr × Obj) → Prop) (G : Value → Prop) (news : List (Addr × Obj)) (y : Value) (s₂ : Shared) : Prop :=
  LCg.CompEnd h₀ L m s I oI C oC D oD S (fun y news' => news' = news ∧ G y) y s₂
theorem cmpP_of {h₀ : Heap} {L I C D : Addr} {m : Str → Option Value} {s₁ : Shared} {oI oC oD : Obj} {S : List (Addr × Obj) → Prop} {G : Value → Prop} {y : Value} {h' : Heap} {tk : Nat} {all news : List (Addr × Obj)}
    (F : Fr h₀ L h' m) (N : News h₀ L h' all) (sub : ∀ p ∈ (I, oI) :: (C, oC) :: (D, oD) :: news, p ∈ all) (off : LCg.Off3 I C D news) (hS : S news) (r : G y) :
    CmpP h₀ L m s₁ I oI C oC D oD S G news y { s₁ with heap := h', toks := tk } := LCg.CompEnd.intro F N news sub off hS ⟨rfl, r⟩
section
variable {prog : Program} {w : World} {A : Around} {h₀ : Heap} {L : Addr} {m : Str → Option Value} {env : Env} {elt : Expr} {x : Str} {scope : Scope} {cl : List (Str × Addr)} {s : Shared} {S : List (Addr × Obj) → Prop} {P : Nat → Value → Prop} {Fin : List Value → List (Addr × Obj) → Prop} {news : List (Addr × Obj)}
theorem cmp_rest {n : Nat} (G : Nat → Value → Prop)
    (turn : ∀ i v I oI C oC D m₂ ys h tk (E' : Value → Shared → Prop), i < n → P i v → LCg.NsObj oC m₂ → m₂ x = some v → Fr h₀ L h m → News h₀ L h ((I, oI) :: (C, oC) :: (D, LCg.lst ys) :: news) → LCg.Off3 I C D news → ((@Ne Nat I C) ∧ (@Ne Nat I D) ∧ (@Ne Nat C D)) →
      wpAny (model prog w) A (eval elt (compEnvC scope cl C env)) (CmpP h₀ L m { s with heap := h, toks := tk } I oI C oC D (LCg.lst ys) S (G i) news) E' { s with heap := h, toks := tk })
    (fin : ∀ ys, ys.length = n → (∀ j, j < n → G j (ys.getD j .none)) → Fin ys news) : LCg.CompRest prog w A h₀ L m env elt x scope cl s S P Fin n 0 [] news := by
  refine wo ?_
  simp (disch :=
  k_dflt (
  refine wk ?_
  have key : ∀ (j i : Nat) (ys : List Value), i + j = n → ys.length = i → (∀ k, k < i → G k (ys.getD k .none)) → LCg.CompRest prog w A h₀ L m env elt x scope cl s S P Fin j i ys news := by
    intro j
    induction j with
    | zero =>
      intro i ys hi hl hy
      obtain rfl : i = n := by omega
      exact LCg.CompRest.zero (fin ys hl hy)
    | succ j ih =>
      intro i ys hi hl hy
      refine LCg.CompRest.succ ?_
      intro v I oI C oC D m₂ h tk E' hv hC hx F N off ne
      refine wpAny_mono (turn i v I oI C oC D m₂ ys h tk E' (by omega) hv hC hx F N off ne) (fun y s₂ hq => ?_) fun _ _ e => e
      obtain ⟨h', tk', nw, e, F', N', off', hS, hn, hG⟩ := hq
      rw [hn] at N' off' hS
      refine ⟨h', tk', news, e, F', N', off', hS, ?_⟩
      refine ih (i + 1) _ (by omega) (by rw [List.length_append, hl]; rfl) fun k hk => ?_
      by_cases hki : k < i
      · have := hy k hki
        rwa [List.getD_eq_getElem?_getD, List.getElem?_append_left (by omega), ← List.getD_eq_getElem?_getD]
      · obtain rfl : k = i := by omega
        rw [List.getD_eq_getElem?_getD, List.getElem?_append_right (by omega), hl, Nat.sub_self]
        exact hG
  exact key n 0 [] (by omega) rfl (fun k hk => absurd hk (Nat.not_lt_zero _))
  )) only [↓wt]
end
section
variable {prog : Program} {w : World} {A : Around} {E : Value → Shared → Prop} {s : Shared} {h₀ : Heap} {L : Addr} {m : Str → Option Value} {news : List (Addr × Obj)}
/-- dict(d), d a dict of the ledger of which the pairs are known -/
theorem dict_copyK {da : Addr} {o : Obj} {kvs : List (Str × Value)} {Q : Value → Shared → Prop} (F : Fr h₀ L s.heap m) (N : News h₀ L s.heap news) (hbig : h₀.NoLimit) (hm : (da, o) ∈ news) (hD : o.IsDictOf (strKind prog w) kvs) (hlo : (da == sysModules) = false) (hsz : kvs.length ≤ 100000)
    (k : ∀ d h' o', Fr h₀ L h' m → News h₀ L h' ((d, o') :: news) → (∀ p ∈ news, p.1 < d) → (d == sysModules) = false → o'.IsDictOf (strKind prog w) kvs → Q (.ref d) { s with heap := h' }) :
    wpAny (model prog w) A (call (.type "dict") [.ref da]) Q E s := by
  refine kt_call_dict hlo (dict_at N hm hD) (by rw [sizeLine_eq]; omega) fun h' hm hs => ?_
  obtain ⟨o', ho', hd'⟩ := Heap.dictOf_iff.mp hm
  have N1 := News.push F N { cls := .type "dict", data := .dict #[] }
  exact k _ h' o' ((F.push _).change hs (N1 _ (.head _)).2.1 (N1.fresh (.head _))) (N1.setHead N.apart hs ho') (fun p hp => Heap.lt_size (N p hp).1) (F.notModules (modules_low hbig)) hd'
end
end
section
open PySem PySem.W PyProof.Rows PySem.Calls
set_option maxRecDepth 100000
theorem sub_nil {news : List (Addr × Obj)} : ∀ q ∈ ([] : List (Addr × Obj)), q ∈ news := fun _ h => nomatch h
theorem sub_cons {a : Addr × Obj} {l news : List (Addr × Obj)} (h : a ∈ news) (t : ∀ q ∈ l, q ∈ news) : ∀ q ∈ a :: l, q ∈ news := List.forall_mem_cons.mpr ⟨h, t⟩
theorem sub_self {l : List (Addr × Obj)} : ∀ q ∈ l, q ∈ l := fun _ h => h
theorem sub_skip {b : Addr × Obj} {l news : List (Addr × Obj)} (t : ∀ q ∈ l, q ∈ news) : ∀ q ∈ l, q ∈ b :: news := fun q h => .tail _ (t q h)
theorem sub_app {l l' news : List (Addr × Obj)} (h : ∀ q ∈ l, q ∈ news) (t : ∀ q ∈ l', q ∈ news) : ∀ q ∈ l ++ l', q ∈ news := List.forall_mem_append.mpr ⟨h, t⟩
theorem keep_of {l news : List (Addr × Obj)} {fp : List Addr} (t : ∀ q ∈ l, q ∈ news) : ∀ q ∈ l, q.1 ∉ fp → q ∈ news := fun q h _ => t q h
theorem keep_hd {a : Addr} {o : Obj} {l news : List (Addr × Obj)} {fp : List Addr} (h : a ∈ fp) (t : ∀ q ∈ l, q.1 ∉ fp → q ∈ news) : ∀ q ∈ (a, o) :: l, q.1 ∉ fp → q ∈ news := List.forall_mem_cons.mpr ⟨fun hx => absurd h hx, t⟩
theorem keep_cons {a : Addr × Obj} {l news : List (Addr × Obj)} {fp : List Addr} (h : a ∈ news) (t : ∀ q ∈ l, q.1 ∉ fp → q ∈ news) : ∀ q ∈ a :: l, q.1 ∉ fp → q ∈ news := List.forall_mem_cons.mpr ⟨fun _ => h, t⟩
theorem all_nil {α : Type} {p : α → Prop} : ∀ x ∈ ([] : List α), p x := fun _ h => nomatch h
theorem all_cons {α : Type} {p : α → Prop} {a : α} {l : List α} (h : p a) (t : ∀ x ∈ l, p x) : ∀ x ∈ a :: l, p x := List.forall_mem_cons.mpr ⟨h, t⟩
theorem ne_nil {a : Addr} : ∀ q ∈ ([] : List (Addr × Obj)), q.1 ≠ a := fun _ h => nomatch h
theorem ne_cons {a b : Addr} {o : Obj} {l : List (Addr × Obj)} (h : @Ne Nat b a) (t : ∀ q ∈ l, q.1 ≠ a) : ∀ q ∈ (b, o) :: l, q.1 ≠ a := List.forall_mem_cons.mpr ⟨h, t⟩
theorem ap_nil {l : List (Addr × Obj)} : Apart [] l := True.intro
theorem ap_cons {b : Addr × Obj} {r l : List (Addr × Obj)} (h : ∀ q ∈ l, q.1 ≠ b.1) (t : Apart r l) : Apart (b :: r) l := ⟨AllNe.of h, t⟩
theorem lt_at {d q : Addr} {o : Obj} : ∀ {l : List (Addr × Obj)}, AllLt d l → (q, o) ∈ l → @LT.lt Nat _ q d
  | _ :: _, h, .head _ => h.1
  | _ :: _, h, .tail _ m => lt_at h.2 m
theorem lt_all {d : Addr} {l : List (Addr × Obj)} (h : AllLt d l) : ∀ q ∈ l, @LT.lt Nat _ q.1 d := fun q hq => lt_at (o := q.2) h hq
theorem lt_sub {d : Addr} {l r : List (Addr × Obj)} (h : AllLt d l) (t : ∀ q ∈ r, q ∈ l) : ∀ q ∈ r, q.1 ≠ d := fun q hq => Nat.ne_of_lt (lt_all h q (t q hq))
theorem ne_sub {d : Addr} {l r : List (Addr × Obj)} (h : AllNe d l) (t : ∀ q ∈ r, q ∈ l) : ∀ q ∈ r, q.1 ≠ d := fun q hq => h.all q (t q hq)
theorem lt_ne {d q : Addr} {o : Obj} {l : List (Addr × Obj)} (h : AllLt d l) (m : (q, o) ∈ l) : @Ne Nat q d := Nat.ne_of_lt (lt_at h m)
theorem lt_en {d q : Addr} {o : Obj} {l : List (Addr × Obj)} (h : AllLt d l) (m : (q, o) ∈ l) : @Ne Nat d q := Nat.ne_of_gt (lt_at h m)
theorem lt_ne2 {d e q : Addr} {o : Obj} {l : List (Addr × Obj)} (h : AllLt d l) (g : @LT.lt Nat _ d e) (m : (q, o) ∈ l) : @Ne Nat q e := Nat.ne_of_lt (Nat.lt_trans (lt_at h m) g)
theorem lt_en2 {d e q : Addr} {o : Obj} {l : List (Addr × Obj)} (h : AllLt d l) (g : @LT.lt Nat _ d e) (m : (q, o) ∈ l) : @Ne Nat e q := Nat.ne_of_gt (Nat.lt_trans (lt_at h m) g)
theorem ap_at {p q : Addr} {o o' : Obj} {new news : List (Addr × Obj)} (h : Apart new news) (hq : (q, o) ∈ new) (hp : (p, o') ∈ news) : @Ne Nat q p := Ne.symm (Apart.at h hq hp)
theorem an_at {a q : Addr} {o : Obj} {l : List (Addr × Obj)} (h : AllNe a l) (hm : (q, o) ∈ l) : @Ne Nat a q := Ne.symm (AllNe.at h hm)
/-- room for the frames, and units: by comparing written numbers -/
theorem roomz {dp D R : Nat} (h : dp + D < R) : dp < R := Nat.lt_of_le_of_lt (Nat.le_add_right _ _) h
theorem room0 {dp d D R : Nat} (h : dp + D < R) (e : Nat.ble d D = true) : dp + d < R := Nat.lt_of_le_of_lt (Nat.add_le_add_left (Nat.le_of_ble_eq_true e) _) h
theorem room1 {dp k d D R : Nat} (h : dp + D < R) (e : Nat.ble (k + d) D = true) : dp + k + d < R := by rw [Nat.add_assoc]; exact room0 h e
theorem room2 {dp k l d D R : Nat} (h : dp + D < R) (e : Nat.ble (k + (l + d)) D = true) : dp + k + l + d < R := by rw [Nat.add_assoc, Nat.add_assoc]; exact room0 h e
theorem room3 {dp j k l d D R : Nat} (h : dp + D < R) (e : Nat.ble (j + (k + (l + d))) D = true) : dp + j + k + l + d < R := by rw [Nat.add_assoc, Nat.add_assoc, Nat.add_assoc]; exact room0 h e
theorem le_up {a b c : Nat} (h : a ≤ b) (e : Nat.ble b c = true) : a ≤ c := Nat.le_trans h (Nat.le_of_ble_eq_true e)
theorem lt_num {a b : Nat} (e : Nat.ble (a + 1) b = true) : a < b := Nat.le_of_ble_eq_true e
/-- what is shown of one end holds of the other -/
def Hand (C Q : Flow → Shared → Prop) : Prop := ∀ fl s', C fl s' → Q fl s'
theorem hand {C Q : Flow → Shared → Prop} {fl : Flow} {s' : Shared} (h : Hand C Q) (c : C fl s') : Q fl s' := h fl s' c
section
variable {prog : Program} {w : World} {A A₀ : Around} {s : Shared} {K : Frag} {L : Addr} {h₀ base : Heap} {m mg mb : Str → Option Value} {news : List (Addr × Obj)} {p : Program} {loose : List Str} {mean : ExcName → Option Value}
theorem code_defP {env : Env} {outer : List Env} {R : Result → Shared → Prop} {name qual : Str} {params : Arguments} {body : List Stmt} {scope : Scope} {dV kV doc pm cdv ct oc : Value} {an od : Option Addr} {osl : Array (Option Value)} {f : Addr} {args : Args} {binds : List (Str × Value)}
    (B : Below A₀ base outer h₀) (F : Fr h₀ L s.heap m) (X₀ : K.In h₀) (N : News h₀ L s.heap news) (T : Top p loose mean mg mb h₀) (hA : A.frames = some (env :: outer)) (hf : env.frame = some L) (hke : env.scope.kind = .function)
    (ho : K.lookup f = some ⟨oc, od, .func (fnOf name qual params body scope dV kV doc pm an cdv ct), osl⟩) (hcd : codeIn K cdv qual = true) (hroom : A.depth < recursionLimit)
    (hbind : BindsTo s (fnOf name qual params body scope dV kV doc pm an cdv ct) args binds) (hloc : ∀ y ∈ binds, scope.names.lookup y.1 = some .local)
    (h : ∀ g L' h₁ (Q' : Flow → Shared → Prop), Fr h₀ L g m → Fr g L' h₁ (fun y => binds.reverse.lookup y) → News g L' h₁ news → Below A base (env :: outer) g → K.In g → Top p loose mean mg mb g → Hand (fun fl s' => LeaveK h₀ L m g R (match fl with | .ret v => v | _ => .none) s') Q' →
      let e := envOf qual scope L' f cdv
      let A' := A.deeper e
      wpAny (model prog w) A' (execs body e) Q' (fun _ _ => False)
        { s with heap := h₁, toks := s.toks + binds.length })
    (hco : scope.isCoroutine = false) (hgen : scope.isGenerator = false) (hk : scope.kind = .function)
    (hcell : ∀ x ∈ scope.names, x.2 ≠ .cell) : codeAny (model prog w) A (.call (.ref f) args) R s :=
  PySem.W.code_def B F X₀ N T hA hf hke ho hcd hroom hbind hloc (fun g L' h₁ a1 a2 a3 a4 a5 a6 => wpAny_mono (h g L' h₁ _ a1 a2 a3 a4 a5 a6 fun _ _ z => z) (fun _ _ z => z) fun _ _ z => z.elim) hco hgen hk hcell
end
section
variable {w : World} {d : Nat} {f : Addr} {args : List Value} {pre : List (Addr × Obj)} {fp : List Addr} {R : Value → List (Addr × Obj) → Prop}
  {name qual : Str} {params : Arguments} {body : List Stmt} {scope : Scope} {dV kV doc pm cdv ct oc : Value} {an od : Option Addr} {osl : Array (Option Value)} {binds : List (Str × Value)}
theorem tells_plainP (ho : (fragK.heap_1 w.params).lookup f = some ⟨oc, od, .func (fnOf name qual params body scope dV kV doc pm an cdv ct), osl⟩) (hcd : codeIn (fragK.heap_1 w.params) cdv qual = true)
    (hbind : ∀ s, BindsTo s (fnOf name qual params body scope dV kV doc pm an cdv ct) ⟨args, []⟩ binds) (hloc : ∀ y ∈ binds, scope.names.lookup y.1 = some .local)
    (hcell : ∀ x ∈ scope.names, x.2 ≠ .cell) (hco : scope.isCoroutine = false) (hgen : scope.isGenerator = false) (hk : scope.kind = .function) (hd0 : 0 < d)
    (h : ∀ (p : Program) (loose : List Str) (mean : ExcName → Option Value) (mg mb : Str → Option Value) (dp un : Nat) (gd : Option (List Code)) (cn : Str) (cs : Scope) (L a : Addr) (ccd : Value) (cl : List (Str × Addr)) (outer : List Env) (base g : Heap) (L' : Addr) (s : Shared) (Pq : Flow → Shared → Prop),
      Below (ktrTop dp un gd cn cs L a ccd cl outer) base (envX cn cs L a ccd cl :: outer) g → Fr g L' s.heap (fun y => binds.reverse.lookup y) → (fragK.heap_1 w.params).In g → News g L' s.heap pre → Top p loose mean mg mb g → dp + d < recursionLimit → un + 8 * d < cLine → Hand (Post g L' pre fp R s) Pq →
      let e := envOf qual scope L' f cdv
      let A := (ktrTop dp un gd cn cs L a ccd cl outer).deeper e
      wpAny (model PySem.Challenge.rw_pq1344_01.row.prog w) A (execs body e) Pq (fun _ _ => False) s) : Tells w d f args pre fp R :=
  tells_plain ho hcd hbind hloc hcell hco hgen hk hd0 fun p loose mean mg mb dp un gd cn cs L a ccd cl outer base g L' s a1 a2 a3 a4 a5 a6 a7 =>
    h p loose mean mg mb dp un gd cn cs L a ccd cl outer base g L' s _ a1 a2 a3 a4 a5 a6 a7 fun _ _ z => z
theorem tells_cellsP (ho : (fragK.heap_1 w.params).lookup f = some ⟨oc, od, .func (fnOf name qual params body scope dV kV doc pm an cdv ct), osl⟩) (hcd : codeIn (fragK.heap_1 w.params) cdv qual = true)
    (hbind : ∀ s : Shared, (fragK.heap_1 w.params).In s.heap → BindsTo s (fnOf name qual params body scope dV kV doc pm an cdv ct) ⟨args, []⟩ binds) (hkind : (binds.all fun y => scope.names.lookup y.1 == some .local || scope.names.lookup y.1 == some .cell) = true)
    (hnd : ((cellsFrom 0 scope.names []).map (·.1)).Nodup) (hco : scope.isCoroutine = false) (hgen : scope.isGenerator = false) (hk : scope.kind = .function) (hd0 : 0 < d)
    (h : ∀ (p : Program) (loose : List Str) (mean : ExcName → Option Value) (mg mb : Str → Option Value) (dp un : Nat) (gd : Option (List Code)) (cn : Str) (cs : Scope) (L a : Addr) (ccd : Value) (cl : List (Str × Addr)) (outer : List Env) (base g : Heap) (L' : Addr) (s : Shared) (cells : List (Addr × Obj)) (Pq : Flow → Shared → Prop),
      Below (ktrTop dp un gd cn cs L a ccd cl outer) base (envX cn cs L a ccd cl :: outer) g → Fr g L' s.heap (bindL (envOfC qual scope L' f cdv).kindOf binds fun _ => none) → (fragK.heap_1 w.params).In g → News g L' s.heap (cells ++ pre) →
      CellsAre (bindC (envOfC qual scope L' f cdv).kindOf binds fun _ => none) (cellsFrom (L' + 1) scope.names []) cells → AllLt L' pre → Top p loose mean mg mb g → dp + d < recursionLimit → un + 8 * d < cLine → Hand (Post g L' pre fp R s) Pq →
      let e := envOfC qual scope L' f cdv
      let A := (ktrTop dp un gd cn cs L a ccd cl outer).deeper e
      wpAny (model PySem.Challenge.rw_pq1344_01.row.prog w) A (execs body e) Pq (fun _ _ => False) s) : Tells w d f args pre fp R :=
  tells_cells ho hcd hbind hkind hnd hco hgen hk hd0 fun p loose mean mg mb dp un gd cn cs L a ccd cl outer base g L' s cells a1 a2 a3 a4 a5 a6 a7 a8 a9 =>
    h p loose mean mg mb dp un gd cn cs L a ccd cl outer base g L' s cells _ a1 a2 a3 a4 a5 a6 a7 a8 a9 fun _ _ z => z
end
section
variable {M : Model} {A : Around} {E : Value → Shared → Prop} {s : Shared} {K : Frag} {h₀ : Heap} {L a : Addr} {m mg mb : Str → Option Value} {cn : Str} {cs : Scope} {ccd : Value} {p : Program} {loose : List Str} {x : Str} {pos : Pos} {v : Value} {Q : Value → Shared → Prop}
theorem nameO_L (F : Fr h₀ L s.heap m) (hv : m x = some v) (h : Q v s) (hk : cs.kind = .function) (hx : (envOf cn cs L a ccd).kindOf x = some .local) (hd : (x == ("__debug__" : Str)) = false) :
    wpAny M A (eval (.Name x pos) (envOf cn cs L a ccd)) Q E s := nameX_L F hv h hk hx hd
theorem nameO_K (F : Fr h₀ L s.heap m) (X : K.In h₀) (T : TopRead p loose mg mb h₀) (e : nsIn K mainGlobals x = some (some v)) (h : Q v s) (hk : cs.kind = .function) (hx : (envOf cn cs L a ccd).kindOf x = some .globalImplicit) (hd : (x == ("__debug__" : Str)) = false) :
    wpAny M A (eval (.Name x pos) (envOf cn cs L a ccd)) Q E s := nameX_K F X T e h hk hx hd
theorem nameC_L (F : Fr h₀ L s.heap m) (hv : m x = some v) (h : Q v s) (hk : cs.kind = .function) (hx : (envOfC cn cs L a ccd).kindOf x = some .local) (hd : (x == ("__debug__" : Str)) = false) :
    wpAny M A (eval (.Name x pos) (envOfC cn cs L a ccd)) Q E s := nameX_L F hv h hk hx hd
theorem nameC_K (F : Fr h₀ L s.heap m) (X : K.In h₀) (T : TopRead p loose mg mb h₀) (e : nsIn K mainGlobals x = some (some v)) (h : Q v s) (hk : cs.kind = .function) (hx : (envOfC cn cs L a ccd).kindOf x = some .globalImplicit) (hd : (x == ("__debug__" : Str)) = false) :
    wpAny M A (eval (.Name x pos) (envOfC cn cs L a ccd)) Q E s := nameX_K F X T e h hk hx hd
end
/-- arguments that are names of the frame -/
inductive LocArgs (env : Env) (m : Str → Option Value) : List Expr → List Value → Prop
  | nil : LocArgs env m [] []
  | cons {x : Str} {p : Pos} {v : Value} {es : List Expr} {vs : List Value} (hk : env.kindOf x = some .local) (hd : (x == ("__debug__" : Str)) = false) (hv : m x = some v) (t : LocArgs env m es vs) : LocArgs env m (.Name x p :: es) (v :: vs)
section
variable {M : Model} {A : Around} {E : Value → Shared → Prop} {s : Shared} {K : Frag} {h₀ : Heap} {L a : Addr} {m mg mb : Str → Option Value} {cn : Str} {cs : Scope} {ccd : Value} {cl : List (Str × Addr)} {p : Program} {loose : List Str} {x f : Str} {pos px : Pos} {v fv : Value}
theorem LocArgs.plain {env : Env} {es : List Expr} {vs : List Value} (l : LocArgs env m es vs) : (backTo pos (starEach es env)).any (·.1) = false := by
  induction l with
  | nil => rfl
  | cons _ _ _ _ ih => simpa [starEach, backTo] using ih
theorem LocArgs.spliced (F : Fr h₀ L s.heap m) (hc : cs.kind = .function) : ∀ {es : List Expr} {vs : List Value} {Q : List Value → Shared → Prop}, LocArgs (envX cn cs L a ccd cl) m es vs → Q vs s → wpAny M A (spliced (backTo pos (starEach es (envX cn cs L a ccd cl)))) Q E s
  | _, _, _, .nil, h => args_nil h
  | _, _, _, .cons hk hd hv t, h => args_cons (nameX_L F hv (LocArgs.spliced F hc t h) hc hk hd)
theorem callX_loc {e0 : Expr} {args : List Expr} {vs : List Value} {Q : Value → Shared → Prop} (F : Fr h₀ L s.heap m) (X : K.In h₀) (T : TopRead p loose mg mb h₀) (e : nsIn K mainGlobals f = some (some fv)) (hf : keepIn K fv = true)
    (hc : cs.kind = .function) (hx : (envX cn cs L a ccd cl).kindOf f = some .globalImplicit) (hd : (f == ("__debug__" : Str)) = false) (l : LocArgs (envX cn cs L a ccd cl) m (e0 :: args) vs) (h : wpAny M A (call fv vs) Q E s) :
    wpAny M A (eval (.Call (.Name f px) (e0 :: args) [] pos) (envX cn cs L a ccd cl)) Q E s := by
  refine Call_ (nameX_K F X T e ?_ hc hx hd)
  cases l with
  | cons hk hd' hv t => exact callWith_K X hf (LocArgs.spliced F hc (.cons hk hd' hv t) ⟨X.keeps F.keep, h⟩) rfl t.plain
theorem callO_loc {e0 : Expr} {args : List Expr} {vs : List Value} {Q : Value → Shared → Prop} (F : Fr h₀ L s.heap m) (X : K.In h₀) (T : TopRead p loose mg mb h₀) (e : nsIn K mainGlobals f = some (some fv)) (hf : keepIn K fv = true)
    (hc : cs.kind = .function) (hx : (envOf cn cs L a ccd).kindOf f = some .globalImplicit) (hd : (f == ("__debug__" : Str)) = false) (l : LocArgs (envOf cn cs L a ccd) m (e0 :: args) vs) (h : wpAny M A (call fv vs) Q E s) :
    wpAny M A (eval (.Call (.Name f px) (e0 :: args) [] pos) (envOf cn cs L a ccd)) Q E s := callX_loc F X T e hf hc hx hd l h
theorem callC_loc {e0 : Expr} {args : List Expr} {vs : List Value} {Q : Value → Shared → Prop} (F : Fr h₀ L s.heap m) (X : K.In h₀) (T : TopRead p loose mg mb h₀) (e : nsIn K mainGlobals f = some (some fv)) (hf : keepIn K fv = true)
    (hc : cs.kind = .function) (hx : (envOfC cn cs L a ccd).kindOf f = some .globalImplicit) (hd : (f == ("__debug__" : Str)) = false) (l : LocArgs (envOfC cn cs L a ccd) m (e0 :: args) vs) (h : wpAny M A (call fv vs) Q E s) :
    wpAny M A (eval (.Call (.Name f px) (e0 :: args) [] pos) (envOfC cn cs L a ccd)) Q E s := callX_loc F X T e hf hc hx hd l h
theorem attrO_loc {at' : Str} {Q : Value → Shared → Prop} (F : Fr h₀ L s.heap m) (hv : m x = some v) (hc : cs.kind = .function) (hx : (envOf cn cs L a ccd).kindOf x = some .local) (hd : (x == ("__debug__" : Str)) = false) (h : wpAny M A (getAttr v at' true) Q E s) :
    wpAny M A (eval (.Attribute (.Name x px) at' pos) (envOf cn cs L a ccd)) Q E s := Attribute_Name_ (nameX_L F hv h hc hx hd)
end
/-- what a call gives back, told by what may be drawn from it: nothing new -/
def Gives0 (K : (Value → Prop) → Prop) (v : Value) (new : List (Addr × Obj)) : Prop := new = [] ∧ ∀ P : Value → Prop, K P → P v
/-- .. with new objects -/
def Gives (pre : List (Addr × Obj)) (K : (Value → List (Addr × Obj) → Prop) → Prop) (v : Value) (new : List (Addr × Obj)) : Prop := Apart new pre ∧ ∀ P : Value → List (Addr × Obj) → Prop, K P → P v new
/-- .. with one object turned -/
def GivesU (c : Addr) (pre : List (Addr × Obj)) (K : (Value → Obj → List (Addr × Obj) → Prop) → Prop) (v : Value) (new : List (Addr × Obj)) : Prop := ∃ o' nw, new = (c, o') :: nw ∧ Apart nw pre ∧ ∀ P : Value → Obj → List (Addr × Obj) → Prop, K P → P v o' nw
section
variable {w : World} {d : Nat} {f c : Addr} {o : Obj} {args : List Value} {pre pre' : List (Addr × Obj)} {g : Obj → List (Addr × Obj)} {p : Program} {loose : List Str} {mean : ExcName → Option Value} {mg mb : Str → Option Value} {dp un : Nat} {gd : Option (List Code)} {cn : Str} {cs : Scope} {a : Addr} {ccd : Value} {cl : List (Str × Addr)} {outer : List Env} {A₀ : Around} {base h₀ : Heap} {L : Addr} {m : Str → Option Value} {s : Shared} {Q E : Value → Shared → Prop} {news : List (Addr × Obj)}
theorem tells_call0 {K : (Value → Prop) → Prop} (C : Tells w d f args pre [] (Gives0 K)) (B : Below A₀ base outer h₀) (F : Fr h₀ L s.heap m) (X : (fragK.heap_1 w.params).In h₀) (N : News h₀ L s.heap news) (hs : ∀ q ∈ pre, q ∈ news) (T : Top p loose mean mg mb h₀) (hk : cs.kind = .function) (hdp : dp + d < recursionLimit) (hun : un + 8 * d < cLine)
    (ret : K fun r => ∀ h' tk', Fr h₀ L h' m → News h₀ L h' news → Q r { s with heap := h', toks := tk' }) :
    wpAny (model PySem.Challenge.rw_pq1344_01.row.prog w) (ktrTop dp un gd cn cs L a ccd cl outer) (call (.ref f) args) Q E s :=
  tells_call C (fun r new hR => by rw [hR.1]; exact True.intro) B F X N hs T hk hdp hun fun r h' tk' new F' N' _ hR => hR.2 (fun r => ∀ h' tk', Fr h₀ L h' m → News h₀ L h' news → Q r { s with heap := h', toks := tk' }) ret h' tk' F' (by have e := hR.1; subst e; exact N')
theorem tells_callG {K : (Value → List (Addr × Obj) → Prop) → Prop} (C : Tells w d f args pre [] (Gives pre K)) (B : Below A₀ base outer h₀) (F : Fr h₀ L s.heap m) (X : (fragK.heap_1 w.params).In h₀) (N : News h₀ L s.heap news) (hs : ∀ q ∈ pre, q ∈ news) (T : Top p loose mean mg mb h₀) (hk : cs.kind = .function) (hdp : dp + d < recursionLimit) (hun : un + 8 * d < cLine)
    (ret : K fun r new => ∀ h' tk', Fr h₀ L h' m → News h₀ L h' (new ++ news) → Apart new news → Q r { s with heap := h', toks := tk' }) :
    wpAny (model PySem.Challenge.rw_pq1344_01.row.prog w) (ktrTop dp un gd cn cs L a ccd cl outer) (call (.ref f) args) Q E s :=
  tells_call C (fun r new hR => hR.1) B F X N hs T hk hdp hun fun r h' tk' new F' N' A' hR => hR.2 (fun r new => ∀ h' tk', Fr h₀ L h' m → News h₀ L h' (new ++ news) → Apart new news → Q r { s with heap := h', toks := tk' }) ret h' tk' F' N' A'
theorem tells_callGU {K : (Value → Obj → List (Addr × Obj) → Prop) → Prop} (C : Tells w d f args pre [c] (GivesU c pre K)) (B : Below A₀ base outer h₀) (F : Fr h₀ L s.heap m) (X : (fragK.heap_1 w.params).In h₀) (N : News h₀ L s.heap news) (hs : ∀ q ∈ pre, q ∈ news) (U : UpdF c o news g) (T : Top p loose mean mg mb h₀) (hk : cs.kind = .function) (hdp : dp + d < recursionLimit) (hun : un + 8 * d < cLine)
    (ret : K fun r o' nw => ∀ h' tk', Fr h₀ L h' m → News h₀ L h' (nw ++ g o') → Apart nw news → Q r { s with heap := h', toks := tk' }) :
    wpAny (model PySem.Challenge.rw_pq1344_01.row.prog w) (ktrTop dp un gd cn cs L a ccd cl outer) (call (.ref f) args) Q E s :=
  tells_callU (R := fun v o' nw => ∀ P : Value → Obj → List (Addr × Obj) → Prop, K P → P v o' nw) C B F X N hs U T hk hdp hun fun r h' tk' o' nw F' N' A' hR => hR (fun r o' nw => ∀ h' tk', Fr h₀ L h' m → News h₀ L h' (nw ++ g o') → Apart nw news → Q r { s with heap := h', toks := tk' }) ret h' tk' F' N' A'
theorem weak0 {R' : Value → List (Addr × Obj) → Prop} {K : (Value → Prop) → Prop} (C : Tells w d f args pre [] (Gives0 K)) (hs : ∀ q ∈ pre, q ∈ pre') (hR : K fun v => R' v []) : Tells w d f args pre' [] R' :=
  tells_weak C hs fun v new h => ⟨[], fun _ z => (nomatch z), h.2 _ hR⟩
theorem weakG {R' : Value → List (Addr × Obj) → Prop} {K : (Value → List (Addr × Obj) → Prop) → Prop} (C : Tells w d f args pre [] (Gives pre K)) (hs : ∀ q ∈ pre, q ∈ pre') (hR : K fun v new => Apart new pre → ∃ new', (∀ q ∈ new', q ∈ new) ∧ R' v new') : Tells w d f args pre' [] R' :=
  tells_weak C hs fun v new h => h.2 _ hR h.1
theorem gives0 {K : (Value → Prop) → Prop} {v : Value} (h : ∀ P : Value → Prop, K P → P v) : Gives0 K v [] := ⟨rfl, h⟩
end
end
section
open PySem PySem.W PyProof.Rows PySem.Calls PySem.Spec
set_option maxRecDepth 100000
/-- a contract over what the base holds -/
def TellsB (w : World) (d : Nat) (f : Addr) (args : List Value) (Hb : Heap → Prop) (R : Value → List (Addr × Obj) → Prop) : Prop :=
  ∀ (p : Program) (loose : List Str) (mean : ExcName → Option Value) (mg mb : Str → Option Value)
    (dp un : Nat) (gd : Option (List Code)) (cn : Str) (cs : Scope) (a : Addr) (ccd : Value) (cl : List (Str × Addr)) (outer : List Env) (A₀ : Around) (base h₀ : Heap) (L : Addr) (m : Str → Option Value) (s : Shared) (Q E : Value → Shared → Prop) (news : List (Addr × Obj)),
    Hb h₀ → Below A₀ base outer h₀ → Fr h₀ L s.heap m → (fragK.heap_1 w.params).In h₀ → News h₀ L s.heap news → Top p loose mean mg mb h₀ → cs.kind = .function → dp + d < recursionLimit → un + 8 * d < cLine →
    (∀ r h' tk' new, Fr h₀ L h' m → News h₀ L h' (new ++ news) → Apart new news → R r new → Q r { s with heap := h', toks := tk' }) →
    wpAny (model PySem.Challenge.rw_pq1344_01.row.prog w) (ktrTop dp un gd cn cs L a ccd cl outer) (call (.ref f) args) Q E s
section
variable {w : World} {d : Nat} {f : Addr} {args : List Value} {Hb : Heap → Prop} {R : Value → List (Addr × Obj) → Prop}
  {name qual : Str} {params : Arguments} {body : List Stmt} {scope : Scope} {dV kV doc pm cdv ct oc : Value} {an od : Option Addr} {osl : Array (Option Value)} {binds : List (Str × Value)}
theorem tells_base (hmono : ∀ h h' : Heap, h.StaysIn h' → Hb h → Hb h') (ho : (fragK.heap_1 w.params).lookup f = some ⟨oc, od, .func (fnOf name qual params body scope dV kV doc pm an cdv ct), osl⟩) (hcd : codeIn (fragK.heap_1 w.params) cdv qual = true)
    (hbind : ∀ s, BindsTo s (fnOf name qual params body scope dV kV doc pm an cdv ct) ⟨args, []⟩ binds) (hloc : ∀ y ∈ binds, scope.names.lookup y.1 = some .local)
    (hcell : ∀ x ∈ scope.names, x.2 ≠ .cell) (hco : scope.isCoroutine = false) (hgen : scope.isGenerator = false) (hk : scope.kind = .function) (hd0 : 0 < d)
    (h : ∀ (p : Program) (loose : List Str) (mean : ExcName → Option Value) (mg mb : Str → Option Value) (dp un : Nat) (gd : Option (List Code)) (cn : Str) (cs : Scope) (L a : Addr) (ccd : Value) (cl : List (Str × Addr)) (outer : List Env) (base g : Heap) (L' : Addr) (s : Shared),
      Hb g → Below (ktrTop dp un gd cn cs L a ccd cl outer) base (envX cn cs L a ccd cl :: outer) g → Fr g L' s.heap (fun y => binds.reverse.lookup y) → (fragK.heap_1 w.params).In g → News g L' s.heap [] → Top p loose mean mg mb g → dp + d < recursionLimit → un + 8 * d < cLine →
      wpAny (model PySem.Challenge.rw_pq1344_01.row.prog w) ((ktrTop dp un gd cn cs L a ccd cl outer).deeper (envOf qual scope L' f cdv)) (execs body (envOf qual scope L' f cdv))
        (Post g L' [] [] R s) (fun _ _ => False) s) : TellsB w d f args Hb R := by
  refine wo ?_
  simp (disch :=
  k_dflt (
  refine wk ?_
  intro p loose mean mg mb dp un gd cn cs a ccd cl outer A₀ base h₀ L m s Q E news hb B F X N T hck hdp hun hret
  refine wpAny_call ?_
  obtain ⟨FG, BG, st, lv⟩ := groundX (A := ktrTop dp un gd cn cs L a ccd cl outer) (env := envX cn cs L a ccd cl) (R := fun r s' => ∀ v, r = .ok (.ret v) → Fr h₀ L s'.heap m) (news := []) B F News.nil rfl rfl hck
  refine codeAny_call_def (fd := fnOf name qual params body scope dV kV doc pm an cdv ct) (body := body) (binds := binds) (by show dp < recursionLimit; omega) ((X.keeps F.keep) _ _ ho) rfl (T.nolimit.keeps F.keep) (codeRec_of (X.keeps F.keep) hcd) rfl (hbind _) hcell hloc (fun h₁ hns hk₁ => ?_) hco hgen hk
  refine wpAny_mono (h p loose mean mg mb dp un gd cn cs L a ccd cl outer base _ s.heap.objs.size { s with heap := h₁, toks := s.toks + binds.length } (hmono _ _ st hb) BG ⟨hns, fun b o e => hk₁ b o (of_hideAll _ e), Nat.le_of_eq (hideAll_size _ _)⟩ (X.keeps st)
    News.nil (T.keeps st) hdp hun) (fun fl s' hl => ?_) fun _ _ x => x.elim
  obtain ⟨⟨hh, tk, rfl⟩, m', news', new, F', N', h1, h2, h3⟩ := hl
  have N0 : News h₀ L s.heap [] := News.nil
  obtain ⟨e1, e2⟩ := back (fp := []) (pre := []) N0 hh m' news' new F' N' h1 (fun _ z _ => nomatch z)
  have F₁ : Fr h₀ L hh m := lv (match fl with | .ret v => v | _ => .none) { s with heap := hh, toks := tk } ⟨_, m', news', F', N', fun Fx _ v _ => Fx⟩ _ rfl
  have N₁ : News h₀ L hh new := fun q hq => by
    refine ⟨(N' q (h1 q hq)).1, fun z => ?_, ?_⟩
    · have z1 := (N' q (h1 q hq)).2.2
      obtain ⟨oL, _, _, hL, _⟩ := FG.ns
      rw [z, hL] at z1; cases z1
    · cases q1 : h₀.get? q.1 with
      | none => rfl
      | some o => have z1 := (N' q (h1 q hq)).2.2; rw [st _ _ q1] at z1; cases z1
  exact hret _ hh tk new F₁ (news_app N₁ (news_ext N e1)) (Apart.of fun q hq => fresh_ne N (e2 q hq (fun z => nomatch z))) h3
  )) only [↓wt]
end
end
section
open PySem PySem.W PyProof.Rows PySem.Calls
set_option Elab.async false
set_option maxRecDepth 100000 
set_option maxHeartbeats 8000000 
theorem kwV0_0 : True := by
  k_with_none
  k_with "MEM" => first | (with_reducible exact List.mem_cons_self) | ((with_reducible refine List.mem_cons_of_mem _ ?_); k_extra "MEM")
  k_with "ENTER" => (refine' code_defP ?zqk1 ?zqk2 ?zqk3 ?zqk4 ?zqk5 ?zqkA ?zqkF ?zqkK ?zqk6 ?zqk7 ?zqk8 ?zqk9 ?zqkB ?_ ?zqc2 ?zqc3 ?zqc4 ?zqc5; (case zqkA => exact rfl); (case zqkF => exact rfl); (case zqkK => exact rfl); (case zqk1 => k_asm); (case zqk2 => k_asm); (case zqk3 => k_asm); (case zqk4 => k_asm); (case zqk5 => k_asm); (case zqk6 => k_is); (case zqk7 => k_is); (case zqk8 => k_room); (case zqk9 => first | exact BindsTo.of_eq rfl | exact binds_K (by k_in) rfl (by k_is) rfl rfl rfl); (case zqc5 => decide); (case zqkB => exact locs rfl); (case zqc2 => exact rfl); (case zqc3 => exact rfl); (case zqc4 => exact rfl); k_whole; intro g' L' h' Q' FG' F' N' B' X' T' hQ' e9 A9; (try dsimp only); (try k_lift B'); (try k_fold))
  k_with "S0" => ((fail_if_success (with_reducible show Post _ _ _ _ _ _ _ _)); (fail_if_success (with_reducible show LoopP _ _ _ _ _ _ _ _)); (fail_if_success (with_reducible show CmpP _ _ _ _ _ _ _ _ _ _ _ _ _ _ _)))
  k_with "S1" => first | (k_unfold; (try dsimp only)) | (k_end; wrow_close) | walk1 | (with_reducible refine hand (by assumption) ?_; try dsimp only) | (dsimp only; walk1) | (leave1; try dsimp only)
  k_with "ROOM" => first | (refine' room0 ?zqh ?zqe; (case zqh => assumption); (case zqe => exact rfl)) | (refine' room1 ?zqh ?zqe; (case zqh => assumption); (case zqe => exact rfl)) | (refine' room2 ?zqh ?zqe; (case zqh => assumption); (case zqe => exact rfl)) | (refine' room3 ?zqh ?zqe; (case zqh => assumption); (case zqe => exact rfl)) | (refine' roomz ?zqh; (case zqh => assumption)) | ktr_room
  k_with "UNITS" => first | (refine' room0 ?zqh ?zqe; (case zqh => assumption); (case zqe => exact rfl)) | (refine' room1 ?zqh ?zqe; (case zqh => assumption); (case zqe => exact rfl)) | (refine' room2 ?zqh ?zqe; (case zqh => assumption); (case zqe => exact rfl)) | (refine' room3 ?zqh ?zqe; (case zqh => assumption); (case zqe => exact rfl)) | exact lt_num rfl | ktr_units
  k_with "AR" => first | assumption | exact Nat.le_max_right _ _ | exact Nat.le_max_left _ _ | exact Nat.max_lt.mpr ⟨by assumption, by assumption⟩ | (refine' le_up ?zqh ?zqe; (case zqh => assumption); (case zqe => exact rfl)) | omega
  k_with "SUT" => first | exact sub_self | (refine sub_skip ?_; k_extra "SUT")
  k_with "SUB" => first | exact sub_nil | ((with_reducible refine' sub_cons ?zqsm ?_); (case zqsm => k_mem); k_extra "SUB") | k_extra "SUT"
  k_with "SUK" => first | exact sub_nil | k_extra "SUT" | k_extra "SUB"
  k_with "KEEP" => first | (refine keep_hd (List.Mem.head _) ?_; k_extra "KEEP") | exact keep_of (by k_extra "SUK") | ((with_reducible refine' keep_cons ?zqkm ?_); (case zqkm => k_mem); k_extra "KEEP")
  k_with "APQ" => (rename Apart _ _ => h9; first | exact Apart.at h9 (by k_extra "MEM") (by k_extra "MEM") | exact ap_at h9 (by k_extra "MEM") (by k_extra "MEM") | (clear h9; k_extra "APQ"))
  k_with "ANQ" => (rename AllNe _ _ => h9; first | exact AllNe.at h9 (by k_extra "MEM") | exact an_at h9 (by k_extra "MEM") | (clear h9; k_extra "ANQ"))
  k_with "ALQ" => (rename AllLt _ _ => h9; first | exact lt_ne h9 (by k_extra "MEM") | exact lt_en h9 (by k_extra "MEM") | exact lt_ne2 h9 (by assumption) (by k_extra "MEM") | exact lt_en2 h9 (by assumption) (by k_extra "MEM") | (clear h9; k_extra "ALQ"))
  k_with "NEQ" => first | assumption | exact Ne.symm (by assumption) | exact Nat.ne_of_lt (by assumption) | exact Nat.ne_of_gt (by assumption) | k_extra "ALQ" | k_extra "ANQ" | k_extra "APQ" | omega
  k_with "APS" => (rename Apart _ _ => h9; first | exact Apart.subA h9 rfl (by k_extra "SUK") | (clear h9; k_extra "APS"))
  k_with "NE1" => (refine neN ?_; (try dsimp only); k_extra "NEQ")
  k_with "ALL" => first | exact all_nil | (rename AllLt _ _ => h9; exact lt_sub h9 (by k_extra "SUT")) | (refine' all_cons ?zqa ?zqb; (case zqa => k_ne); (case zqb => k_all))
  k_with "ALN" => first | exact ne_nil | (refine ne_cons ?_ ?_; (focus ((try dsimp only); k_extra "NEQ")); k_extra "ALN")
  k_with "APM" => first | exact ap_nil | k_extra "APS" | (refine ap_cons ?_ ?_; (focus k_extra "ALN"); k_extra "APM")
  k_with "CA" => ((case zqkB => k_asm); (case zqkF => k_asm); (case zqkX => k_asm); (case zqkN => k_asm))
  k_with "CB" => ((case zqkT => k_asm); (case zqkK => first | exact rfl | assumption); (case zqkd => k_extra "ROOM"); (case zqku => k_extra "UNITS"))
  k_with "CE" => all_goals ((try ((with_reducible rename News _ _ _ _ => h9); simp only [List.nil_append, List.cons_append] at h9)); (try ((with_reducible rename Apart [] _ => h7); clear h7)); (try dsimp only [Option.getD_some, Option.getD_none]); (try k_sweep); (try k_fold))
  k_with "CZ" => all_goals ((try dsimp only [Option.getD_some, Option.getD_none]); (try k_sweep); (try k_fold))
  k_with "call builtin:len" => (k_here; (with_reducible show wpAny _ _ (call (Value.builtin "len") [Value.ref _]) _ _ _); k_dflt (refine' len_sym ?zqk1 ?zqk2 ?zqk3 ?_; (case zqk1 => k_asm); (case zqk2 => k_mem); (case zqk3 => k_extra "AR"); k_whole))
  k_with "getMethod ref" => (k_here; (with_reducible show wpAny _ _ (getMethod (Value.ref _) (PySem.Str.ofString "get") _) _ _ _); k_dflt (refine' get_method ?zqk1 ?zqk2 ?zqk3 ?_; (case zqk1 => k_asm); (case zqk2 => k_mem); (case zqk3 => with_reducible assumption); k_whole))
  k_with "call builtin:dict.get" => (k_here; (with_reducible show wpAny _ _ (call (Value.builtin "dict.get") [Value.ref _, Value.str _ _]) _ _ _); k_dflt (refine' get_call ?zqk0 ?zqk1 ?zqk2 ?zqk3 ?_; (case zqk1 => k_asm); (case zqk2 => k_mem); (case zqk3 => with_reducible assumption); (case zqk0 => with_reducible assumption); k_whole))
  k_with "LOCA" => first | exact LocArgs.nil | (refine' LocArgs.cons ?zqlk ?zqld ?zqlv ?zqlt; (case zqlk => kernel_rfl!); (case zqld => kernel_rfl); (case zqlv => first | rfl | assumption); (case zqlt => k_extra "LOCA"))
  k_with "eval Call" => (k_here; (with_reducible show wpAny _ _ (eval (Expr.Call (Expr.Name _ _) (Expr.Name _ _ :: _) [] _) _) _ _ _); first | ((with_reducible refine' callO_loc ?zqF ?zqX ?zqT ?zqe ?zqk ?zqa ?zqb ?zqc ?zql ?_); k_dflt ((case zqF => k_asm); (case zqX => k_asm); (case zqT => k_asm); (case zqa => exact rfl); (case zqb => kernel_rfl!); (case zqc => kernel_rfl); (case zqe => k_is); (case zqk => k_is); (case zql => k_extra "LOCA"); k_whole)) | ((with_reducible refine' callC_loc ?zqF ?zqX ?zqT ?zqe ?zqk ?zqa ?zqb ?zqc ?zql ?_); k_dflt ((case zqF => k_asm); (case zqX => k_asm); (case zqT => k_asm); (case zqa => exact rfl); (case zqb => kernel_rfl!); (case zqc => kernel_rfl); (case zqe => k_is); (case zqk => k_is); (case zql => k_extra "LOCA"); k_whole)))
  k_with "eval Attribute Name" => (k_here; (with_reducible refine' attrO_loc ?zqF ?zqv ?zqa ?zqb ?zqc ?_); k_dflt ((case zqF => k_asm); (case zqa => exact rfl); (case zqb => kernel_rfl!); (case zqc => kernel_rfl); (case zqv => first | rfl | assumption); k_whole))
  k_with "ite" => (k_here; first | (k_closed; first | ((with_reducible refine ite_pos ?zqk2 ?_); k_dflt (case zqk2 => decide)) | ((with_reducible refine ite_neg ?zqk2 ?_); k_dflt (case zqk2 => decide))) | (refine' ite_bf ?zqk1 ?_; (case zqk1 => first | assumption | exact decide_eq_false (by omega) | exact beq_eq_false_iff_ne.mpr (by omega))) | (refine' ite_bt ?zqk1 ?_; (case zqk1 => first | assumption | exact decide_eq_true (by omega) | exact beq_iff_eq.mpr (by omega))))
  k_with "call type:dict" => (k_here; (with_reducible show wpAny _ _ (call (Value.type "dict") [Value.ref _]) _ _ _); k_dflt (refine' dict_copyK ?zqF ?zqN ?zqb ?zqm ?zqD ?zql ?zqz ?_; (case zqF => k_asm); (case zqN => k_asm); (case zqb => exact Top.nolimit (by k_asm)); (case zqm => k_mem); (case zqD => with_reducible assumption); (case zql => with_reducible assumption); (case zqz => omega); k_whole); intro d' h' o' F' N' l1 lo' hd'; (try k_lt l1))
  k_with "OWN" => (intro p9 hp9; repeat' (first | exact hp9 | refine List.mem_append.mpr (Or.inr ?_) | refine List.mem_cons_of_mem _ ?_))
  k_with "eval Name" => (k_here; first | ((with_reducible refine' nameO_L ?zqF ?zqv ?_ ?zqa ?zqb ?zqc); k_dflt ((case zqF => k_asm); (case zqa => exact rfl); (case zqb => kernel_rfl!); (case zqc => kernel_rfl); (case zqv => first | rfl | assumption); k_whole)) | ((with_reducible refine' nameO_K ?zqF ?zqX ?zqT ?zqe ?_ ?zqa ?zqb ?zqc); k_dflt ((case zqF => k_asm); (case zqX => k_asm); (case zqT => k_asm); (case zqa => exact rfl); (case zqb => kernel_rfl!); (case zqc => kernel_rfl); (case zqe => k_is); k_whole)) | ((with_reducible refine' nameC_L ?zqF ?zqv ?_ ?zqa ?zqb ?zqc); k_dflt ((case zqF => k_asm); (case zqa => exact rfl); (case zqb => kernel_rfl!); (case zqc => kernel_rfl); (case zqv => first | rfl | assumption); k_whole)) | ((with_reducible refine' nameC_K ?zqF ?zqX ?zqT ?zqe ?_ ?zqa ?zqb ?zqc); k_dflt ((case zqF => k_asm); (case zqX => k_asm); (case zqT => k_asm); (case zqa => exact rfl); (case zqb => kernel_rfl!); (case zqc => kernel_rfl); (case zqe => k_is); k_whole)))
  trivial

/-- a contract over whatever ledger is at hand -/
def TellsN (w : World) (d : Nat) (f : Addr) (args : List Value) (R : Value → List (Addr × Obj) → Prop) : Prop :=
  ∀ (p : Program) (loose : List Str) (mean : ExcName → Option Value) (mg mb : Str → Option Value)
    (dp un : Nat) (gd : Option (List Code)) (cn : Str) (cs : Scope) (a : Addr) (ccd : Value) (cl : List (Str × Addr)) (outer : List Env) (A₀ : Around) (base h₀ : Heap) (L : Addr) (m : Str → Option Value) (s : Shared) (Q E : Value → Shared → Prop) (news : List (Addr × Obj)),
    Below A₀ base outer h₀ → Fr h₀ L s.heap m → (fragK.heap_1 w.params).In h₀ → News h₀ L s.heap news → Top p loose mean mg mb h₀ → cs.kind = .function → dp + d < recursionLimit → un + 8 * d < cLine →
    (∀ r h' tk' new, Fr h₀ L h' m → News h₀ L h' (new ++ news) → Apart new news → R r new → Q r { s with heap := h', toks := tk' }) →
    wpAny (model PySem.Challenge.rw_pq1344_01.row.prog w) (ktrTop dp un gd cn cs L a ccd cl outer) (call (.ref f) args) Q E s
/-- .. whatever stands there -/
def GivesN (K : (Value → List (Addr × Obj) → Prop) → Prop) (v : Value) (new : List (Addr × Obj)) : Prop := ∀ P : Value → List (Addr × Obj) → Prop, K P → P v new
theorem vector_new {w : World} {k it : Value} : TellsN w 3 113 [k, it] (GivesN fun P => ∀ x d t1 t2 t3 t4 t5, @Ne Nat d x → P (.ref x) [(x, instObj 113 d), (d, dictOf (vd w.params t1 t2 t3 t4 t5 k it .none (.bool false) (.bool false)) 5)]) := by
  refine wo ?_
  simp (disch :=
  k_dflt (
  refine wk ?_
  intro p loose mean mg mb dp un gd cn cs a ccd cl outer A₀ base h₀ L m s Q E news B F K N T hck hdp hun hret
  obtain ⟨ck, c1, c2, c3, c4⟩ := cs
  dsimp only at hck
  subst hck
  repeat' (k_extra "S0"; k_extra "S1")
  (rename AllLt _ _ => l1)
  (rename _ < _ => l2)
  exact hret _ _ _ [_, _] (by k_asm) (by k_asm) ⟨AllNe.of fun q hq => Nat.ne_of_lt (Nat.lt_trans (lt_all l1 q hq) l2), AllNe.of fun q hq => Nat.ne_of_lt (lt_all l1 q hq), True.intro⟩ (fun P hP => hP _ _ _ _ _ _ _ (Nat.ne_of_lt l2))
  )) only [↓wt]
theorem vector_new3 {w : World} {k it av : Value} : TellsN w 3 113 [k, it, av] (GivesN fun P => ∀ x d t1 t2 t3 t4 t5, @Ne Nat d x → P (.ref x) [(x, instObj 113 d), (d, dictOf (vd w.params t1 t2 t3 t4 t5 k it av (.bool false) (.bool false)) 5)]) := by
  refine wo ?_
  simp (disch :=
  k_dflt (
  refine wk ?_
  intro p loose mean mg mb dp un gd cn cs a ccd cl outer A₀ base h₀ L m s Q E news B F K N T hck hdp hun hret
  obtain ⟨ck, c1, c2, c3, c4⟩ := cs
  dsimp only at hck
  subst hck
  repeat' (k_extra "S0"; k_extra "S1")
  (rename AllLt _ _ => l1)
  (rename _ < _ => l2)
  exact hret _ _ _ [_, _] (by k_asm) (by k_asm) ⟨AllNe.of fun q hq => Nat.ne_of_lt (Nat.lt_trans (lt_all l1 q hq) l2), AllNe.of fun q hq => Nat.ne_of_lt (lt_all l1 q hq), True.intro⟩ (fun P hP => hP _ _ _ _ _ _ _ (Nat.ne_of_lt l2))
  )) only [↓wt]
theorem null_new {w : World} {k it : Value} : TellsN w 6 63 [] (GivesN fun P => ∀ x d n z1 z2 z3, @Ne Nat d x → P (.ref x) [(x, instObj 63 d), (d, dictOf [ent w.params (Str.ofString "kind") z1 (.str (Str.ofString "NULL") z2), ent w.params (Str.ofString "attrs") z3 .none] n)]) := by
  refine wo ?_
  simp (disch :=
  k_dflt (
  refine wk ?_
  intro p loose mean mg mb dp un gd cn cs a ccd cl outer A₀ base h₀ L m s Q E news B F K N T hck hdp hun hret
  obtain ⟨ck, c1, c2, c3, c4⟩ := cs
  dsimp only at hck
  subst hck
  repeat' (k_extra "S0"; k_extra "S1")
  (rename AllLt _ _ => l1)
  (rename _ < _ => l2)
  exact hret _ _ _ [_, _] (by k_asm) (by k_asm) ⟨AllNe.of fun q hq => Nat.ne_of_lt (Nat.lt_trans (lt_all l1 q hq) l2), AllNe.of fun q hq => Nat.ne_of_lt (lt_all l1 q hq), True.intro⟩ (fun P hP => hP _ _ _ _ _ _ (Nat.ne_of_lt l2))
  )) only [↓wt]
theorem missing_new {w : World} {k it : Value} : TellsN w 6 153 [] (GivesN fun P => ∀ x d n z1 z2 z3, @Ne Nat d x → P (.ref x) [(x, instObj 84 d), (d, dictOf [ent w.params (Str.ofString "kind") z1 (.str (Str.ofString "missing") z2), ent w.params (Str.ofString "attrs") z3 .none] n)]) := by
  refine wo ?_
  simp (disch :=
  k_dflt (
  refine wk ?_
  intro p loose mean mg mb dp un gd cn cs a ccd cl outer A₀ base h₀ L m s Q E news B F K N T hck hdp hun hret
  obtain ⟨ck, c1, c2, c3, c4⟩ := cs
  dsimp only at hck
  subst hck
  repeat' (k_extra "S0"; k_extra "S1")
  (rename AllLt _ _ => l1)
  (rename _ < _ => l2)
  exact hret _ _ _ [_, _] (by k_asm) (by k_asm) ⟨AllNe.of fun q hq => Nat.ne_of_lt (Nat.lt_trans (lt_all l1 q hq) l2), AllNe.of fun q hq => Nat.ne_of_lt (lt_all l1 q hq), True.intro⟩ (fun P hP => hP _ _ _ _ _ _ (Nat.ne_of_lt l2))
  )) only [↓wt]
section
variable {w : World} {d : Nat} {f : Addr} {args : List Value} {Hb : Heap → Prop} {R : Value → List (Addr × Obj) → Prop}
    {p : Program} {loose : List Str} {mean : ExcName → Option Value} {mg mb : Str → Option Value} {dp un : Nat} {gd : Option (List Code)} {cn : Str} {cs : Scope} {a : Addr} {ccd : Value} {cl : List (Str × Addr)} {outer : List Env} {A₀ : Around} {base h₀ : Heap} {L : Addr} {m : Str → Option Value} {s : Shared} {Q E : Value → Shared → Prop} {news : List (Addr × Obj)}
theorem tellsN_call (C : TellsN w d f args R) (B : Below A₀ base outer h₀) (F : Fr h₀ L s.heap m) (X : (fragK.heap_1 w.params).In h₀) (N : News h₀ L s.heap news) (T : Top p loose mean mg mb h₀) (hk : cs.kind = .function) (hdp : dp + d < recursionLimit) (hun : un + 8 * d < cLine)
    (ret : ∀ r h' tk' new, Fr h₀ L h' m → News h₀ L h' (new ++ news) → Apart new news → R r new → Q r { s with heap := h', toks := tk' }) :
    wpAny (model PySem.Challenge.rw_pq1344_01.row.prog w) (ktrTop dp un gd cn cs L a ccd cl outer) (call (.ref f) args) Q E s := C p loose mean mg mb dp un gd cn cs a ccd cl outer A₀ base h₀ L m s Q E news B F X N T hk hdp hun ret
theorem tellsN_callG {K : (Value → List (Addr × Obj) → Prop) → Prop} (C : TellsN w d f args (GivesN K)) (B : Below A₀ base outer h₀) (F : Fr h₀ L s.heap m) (X : (fragK.heap_1 w.params).In h₀) (N : News h₀ L s.heap news) (T : Top p loose mean mg mb h₀) (hk : cs.kind = .function) (hdp : dp + d < recursionLimit) (hun : un + 8 * d < cLine)
    (ret : K fun r new => ∀ h' tk', Fr h₀ L h' m → News h₀ L h' (new ++ news) → Apart new news → Q r { s with heap := h', toks := tk' }) :
    wpAny (model PySem.Challenge.rw_pq1344_01.row.prog w) (ktrTop dp un gd cn cs L a ccd cl outer) (call (.ref f) args) Q E s := C p loose mean mg mb dp un gd cn cs a ccd cl outer A₀ base h₀ L m s Q E news B F X N T hk hdp hun fun r h' tk' new F' N' A' hR => hR (fun r new => ∀ h' tk', Fr h₀ L h' m → News h₀ L h' (new ++ news) → Apart new news → Q r { s with heap := h', toks := tk' }) ret h' tk' F' N' A'
theorem tellsB_call (C : TellsB w d f args Hb R) (hb : Hb h₀) (B : Below A₀ base outer h₀) (F : Fr h₀ L s.heap m) (X : (fragK.heap_1 w.params).In h₀) (N : News h₀ L s.heap news) (T : Top p loose mean mg mb h₀) (hk : cs.kind = .function) (hdp : dp + d < recursionLimit) (hun : un + 8 * d < cLine)
    (ret : ∀ r h' tk' new, Fr h₀ L h' m → News h₀ L h' (new ++ news) → Apart new news → R r new → Q r { s with heap := h', toks := tk' }) :
    wpAny (model PySem.Challenge.rw_pq1344_01.row.prog w) (ktrTop dp un gd cn cs L a ccd cl outer) (call (.ref f) args) Q E s := C p loose mean mg mb dp un gd cn cs a ccd cl outer A₀ base h₀ L m s Q E news hb B F X N T hk hdp hun ret
end
end
section
open PySem PySem.W PyProof.Rows PySem.Calls
theorem warm1 (w : World) : (fragK.heap_1 w.params = fragK.heap_1 w.params) ∧ (PySem.Challenge.rw_pq1344_01 = PySem.Challenge.rw_pq1344_01) := by
  k_fill
  exact ⟨rfl, rfl⟩
end
section
open PySem PySem.W PyProof.Rows PySem.Calls
set_option Elab.async false
set_option maxRecDepth 100000 
set_option maxHeartbeats 8000000 
theorem kwC1_0 : True := by
  k_with_none
  k_with "MEM" => first | (with_reducible exact List.mem_cons_self) | ((with_reducible refine List.mem_cons_of_mem _ ?_); k_extra "MEM")
  k_with "ENTER" => (refine' code_defP ?zqk1 ?zqk2 ?zqk3 ?zqk4 ?zqk5 ?zqkA ?zqkF ?zqkK ?zqk6 ?zqk7 ?zqk8 ?zqk9 ?zqkB ?_ ?zqc2 ?zqc3 ?zqc4 ?zqc5; (case zqkA => exact rfl); (case zqkF => exact rfl); (case zqkK => exact rfl); (case zqk1 => k_asm); (case zqk2 => k_asm); (case zqk3 => k_asm); (case zqk4 => k_asm); (case zqk5 => k_asm); (case zqk6 => k_is); (case zqk7 => k_is); (case zqk8 => k_room); (case zqk9 => first | exact BindsTo.of_eq rfl | exact binds_K (by k_in) rfl (by k_is) rfl rfl rfl); (case zqc5 => decide); (case zqkB => exact locs rfl); (case zqc2 => exact rfl); (case zqc3 => exact rfl); (case zqc4 => exact rfl); k_whole; intro g' L' h' Q' FG' F' N' B' X' T' hQ' e9 A9; (try dsimp only); (try k_lift B'); (try k_fold))
  k_with "S0" => ((fail_if_success (with_reducible show Post _ _ _ _ _ _ _ _)); (fail_if_success (with_reducible show LoopP _ _ _ _ _ _ _ _)); (fail_if_success (with_reducible show CmpP _ _ _ _ _ _ _ _ _ _ _ _ _ _ _)))
  k_with "S1" => first | (k_unfold; (try dsimp only)) | (k_end; wrow_close) | walk1 | (with_reducible refine hand (by assumption) ?_; try dsimp only) | (dsimp only; walk1) | (leave1; try dsimp only)
  k_with "ROOM" => first | (refine' room0 ?zqh ?zqe; (case zqh => assumption); (case zqe => exact rfl)) | (refine' room1 ?zqh ?zqe; (case zqh => assumption); (case zqe => exact rfl)) | (refine' room2 ?zqh ?zqe; (case zqh => assumption); (case zqe => exact rfl)) | (refine' room3 ?zqh ?zqe; (case zqh => assumption); (case zqe => exact rfl)) | (refine' roomz ?zqh; (case zqh => assumption)) | ktr_room
  k_with "UNITS" => first | (refine' room0 ?zqh ?zqe; (case zqh => assumption); (case zqe => exact rfl)) | (refine' room1 ?zqh ?zqe; (case zqh => assumption); (case zqe => exact rfl)) | (refine' room2 ?zqh ?zqe; (case zqh => assumption); (case zqe => exact rfl)) | (refine' room3 ?zqh ?zqe; (case zqh => assumption); (case zqe => exact rfl)) | exact lt_num rfl | ktr_units
  k_with "AR" => first | assumption | exact Nat.le_max_right _ _ | exact Nat.le_max_left _ _ | exact Nat.max_lt.mpr ⟨by assumption, by assumption⟩ | (refine' le_up ?zqh ?zqe; (case zqh => assumption); (case zqe => exact rfl)) | omega
  k_with "SUT" => first | exact sub_self | (refine sub_skip ?_; k_extra "SUT")
  k_with "SUB" => first | exact sub_nil | ((with_reducible refine' sub_cons ?zqsm ?_); (case zqsm => k_mem); k_extra "SUB") | k_extra "SUT"
  k_with "SUK" => first | exact sub_nil | k_extra "SUT" | k_extra "SUB"
  k_with "KEEP" => first | (refine keep_hd (List.Mem.head _) ?_; k_extra "KEEP") | exact keep_of (by k_extra "SUK") | ((with_reducible refine' keep_cons ?zqkm ?_); (case zqkm => k_mem); k_extra "KEEP")
  k_with "APQ" => (rename Apart _ _ => h9; first | exact Apart.at h9 (by k_extra "MEM") (by k_extra "MEM") | exact ap_at h9 (by k_extra "MEM") (by k_extra "MEM") | (clear h9; k_extra "APQ"))
  k_with "ANQ" => (rename AllNe _ _ => h9; first | exact AllNe.at h9 (by k_extra "MEM") | exact an_at h9 (by k_extra "MEM") | (clear h9; k_extra "ANQ"))
  k_with "ALQ" => (rename AllLt _ _ => h9; first | exact lt_ne h9 (by k_extra "MEM") | exact lt_en h9 (by k_extra "MEM") | exact lt_ne2 h9 (by assumption) (by k_extra "MEM") | exact lt_en2 h9 (by assumption) (by k_extra "MEM") | (clear h9; k_extra "ALQ"))
  k_with "NEQ" => first | assumption | exact Ne.symm (by assumption) | exact Nat.ne_of_lt (by assumption) | exact Nat.ne_of_gt (by assumption) | k_extra "ALQ" | k_extra "ANQ" | k_extra "APQ" | omega
  k_with "APS" => (rename Apart _ _ => h9; first | exact Apart.subA h9 rfl (by k_extra "SUK") | (clear h9; k_extra "APS"))
  k_with "NE1" => (refine neN ?_; (try dsimp only); k_extra "NEQ")
  k_with "ALL" => first | exact all_nil | (rename AllLt _ _ => h9; exact lt_sub h9 (by k_extra "SUT")) | (refine' all_cons ?zqa ?zqb; (case zqa => k_ne); (case zqb => k_all))
  k_with "ALN" => first | exact ne_nil | (refine ne_cons ?_ ?_; (focus ((try dsimp only); k_extra "NEQ")); k_extra "ALN")
  k_with "APM" => first | exact ap_nil | k_extra "APS" | (refine ap_cons ?_ ?_; (focus k_extra "ALN"); k_extra "APM")
  k_with "CA" => ((case zqkB => k_asm); (case zqkF => k_asm); (case zqkX => k_asm); (case zqkN => k_asm))
  k_with "CB" => ((case zqkT => k_asm); (case zqkK => first | exact rfl | assumption); (case zqkd => k_extra "ROOM"); (case zqku => k_extra "UNITS"))
  k_with "CE" => all_goals ((try ((with_reducible rename News _ _ _ _ => h9); simp only [List.nil_append, List.cons_append] at h9)); (try ((with_reducible rename Apart [] _ => h7); clear h7)); (try dsimp only [Option.getD_some, Option.getD_none]); (try k_sweep); (try k_fold))
  k_with "CZ" => all_goals ((try dsimp only [Option.getD_some, Option.getD_none]); (try k_sweep); (try k_fold))
  k_with "call builtin:len" => (k_here; (with_reducible show wpAny _ _ (call (Value.builtin "len") [Value.ref _]) _ _ _); k_dflt (refine' len_sym ?zqk1 ?zqk2 ?zqk3 ?_; (case zqk1 => k_asm); (case zqk2 => k_mem); (case zqk3 => k_extra "AR"); k_whole))
  k_with "getMethod ref" => (k_here; (with_reducible show wpAny _ _ (getMethod (Value.ref _) (PySem.Str.ofString "get") _) _ _ _); k_dflt (refine' get_method ?zqk1 ?zqk2 ?zqk3 ?_; (case zqk1 => k_asm); (case zqk2 => k_mem); (case zqk3 => with_reducible assumption); k_whole))
  k_with "call builtin:dict.get" => (k_here; (with_reducible show wpAny _ _ (call (Value.builtin "dict.get") [Value.ref _, Value.str _ _]) _ _ _); k_dflt (refine' get_call ?zqk0 ?zqk1 ?zqk2 ?zqk3 ?_; (case zqk1 => k_asm); (case zqk2 => k_mem); (case zqk3 => with_reducible assumption); (case zqk0 => with_reducible assumption); k_whole))
  k_with "LOCA" => first | exact LocArgs.nil | (refine' LocArgs.cons ?zqlk ?zqld ?zqlv ?zqlt; (case zqlk => kernel_rfl!); (case zqld => kernel_rfl); (case zqlv => first | rfl | assumption); (case zqlt => k_extra "LOCA"))
  k_with "eval Call" => (k_here; (with_reducible show wpAny _ _ (eval (Expr.Call (Expr.Name _ _) (Expr.Name _ _ :: _) [] _) _) _ _ _); first | ((with_reducible refine' callO_loc ?zqF ?zqX ?zqT ?zqe ?zqk ?zqa ?zqb ?zqc ?zql ?_); k_dflt ((case zqF => k_asm); (case zqX => k_asm); (case zqT => k_asm); (case zqa => exact rfl); (case zqb => kernel_rfl!); (case zqc => kernel_rfl); (case zqe => k_is); (case zqk => k_is); (case zql => k_extra "LOCA"); k_whole)) | ((with_reducible refine' callC_loc ?zqF ?zqX ?zqT ?zqe ?zqk ?zqa ?zqb ?zqc ?zql ?_); k_dflt ((case zqF => k_asm); (case zqX => k_asm); (case zqT => k_asm); (case zqa => exact rfl); (case zqb => kernel_rfl!); (case zqc => kernel_rfl); (case zqe => k_is); (case zqk => k_is); (case zql => k_extra "LOCA"); k_whole)))
  k_with "eval Attribute Name" => (k_here; (with_reducible refine' attrO_loc ?zqF ?zqv ?zqa ?zqb ?zqc ?_); k_dflt ((case zqF => k_asm); (case zqa => exact rfl); (case zqb => kernel_rfl!); (case zqc => kernel_rfl); (case zqv => first | rfl | assumption); k_whole))
  k_with "ite" => (k_here; first | (k_closed; first | ((with_reducible refine ite_pos ?zqk2 ?_); k_dflt (case zqk2 => decide)) | ((with_reducible refine ite_neg ?zqk2 ?_); k_dflt (case zqk2 => decide))) | (refine' ite_bf ?zqk1 ?_; (case zqk1 => first | assumption | exact decide_eq_false (by omega) | exact beq_eq_false_iff_ne.mpr (by omega))) | (refine' ite_bt ?zqk1 ?_; (case zqk1 => first | assumption | exact decide_eq_true (by omega) | exact beq_iff_eq.mpr (by omega))))
  k_with "call type:dict" => (k_here; (with_reducible show wpAny _ _ (call (Value.type "dict") [Value.ref _]) _ _ _); k_dflt (refine' dict_copyK ?zqF ?zqN ?zqb ?zqm ?zqD ?zql ?zqz ?_; (case zqF => k_asm); (case zqN => k_asm); (case zqb => exact Top.nolimit (by k_asm)); (case zqm => k_mem); (case zqD => with_reducible assumption); (case zql => with_reducible assumption); (case zqz => omega); k_whole); intro d' h' o' F' N' l1 lo' hd'; (try k_lt l1))
  k_with "OWN" => (intro p9 hp9; repeat' (first | exact hp9 | refine List.mem_append.mpr (Or.inr ?_) | refine List.mem_cons_of_mem _ ?_))
  k_with "eval Name" => (k_here; first | ((with_reducible refine' nameO_L ?zqF ?zqv ?_ ?zqa ?zqb ?zqc); k_dflt ((case zqF => k_asm); (case zqa => exact rfl); (case zqb => kernel_rfl!); (case zqc => kernel_rfl); (case zqv => first | rfl | assumption); k_whole)) | ((with_reducible refine' nameO_K ?zqF ?zqX ?zqT ?zqe ?_ ?zqa ?zqb ?zqc); k_dflt ((case zqF => k_asm); (case zqX => k_asm); (case zqT => k_asm); (case zqa => exact rfl); (case zqb => kernel_rfl!); (case zqc => kernel_rfl); (case zqe => k_is); k_whole)) | ((with_reducible refine' nameC_L ?zqF ?zqv ?_ ?zqa ?zqb ?zqc); k_dflt ((case zqF => k_asm); (case zqa => exact rfl); (case zqb => kernel_rfl!); (case zqc => kernel_rfl); (case zqv => first | rfl | assumption); k_whole)) | ((with_reducible refine' nameC_K ?zqF ?zqX ?zqT ?zqe ?_ ?zqa ?zqb ?zqc); k_dflt ((case zqF => k_asm); (case zqX => k_asm); (case zqT => k_asm); (case zqa => exact rfl); (case zqb => kernel_rfl!); (case zqc => kernel_rfl); (case zqe => k_is); k_whole)))
  trivial

theorem card2_tells (w : World) {c : Addr} {us : List Value} {ns : List Int} {n : Nat} {k : Int} {t : Tok} (hI : IntsAre us ns) (hlen : us.length ≤ 600) (hk0 : 0 < k) (hk1 : k < 100) :
    Tells w 1 793 [.ref c, .int k t] [(c, listOf us.toArray n)] [c] (GivesU c [(c, listOf us.toArray n)] fun P => ∀ r t' us' ns' n', 0 ≤ r → r < k → us'.length ≤ 600 → IntsAre us' ns' → P (.int r t') (listOf us'.toArray n') []) := by
  refine wo ?_
  simp (disch :=
  k_dflt (
  refine wk ?_
  refine' tells_plainP (binds := [(Str.ofString "cards", .ref c), (Str.ofString "many", .int k t)]) ?k1 ?k2 ?k3 ?k4 ?k5 ?k6 ?k7 ?k8 ?k9 ?_
  case k1 => k_is
  case k2 => k_is
  case k3 => exact fun s => BindsTo.of_eq rfl
  case k4 => exact locs rfl
  case k5 => decide
  case k6 => rfl
  case k7 => rfl
  case k8 => rfl
  case k9 => decide
  intro p loose mean mg mb dp un gd cn cs L a ccd cl outer base g L' s Pq B F K N T hdp hun hPq e9 A9
  (try dsimp only)
  repeat' (k_extra "S0"; k_extra "S1")
  · ((try dsimp only); refine' post_of [_] _ rfl ?F ?N ?h1 ?h2 ?h3; (case F => k_asm); (case N => k_asm); (case h1 => k_extra "SUB"); (case h2 => k_extra "KEEP"); (case h3 => exact ⟨_, _, rfl, True.intro, fun P hP => hP _ _ _ _ _ (fmod_lo _ hk0) (fmod_hi _ hk0) (by rw [List.length_dropLast]; omega) (by assumption)⟩))
  · ((try dsimp only); refine' post_of [_] _ rfl ?F ?N ?h1 ?h2 ?h3; (case F => k_asm); (case N => k_asm); (case h1 => k_extra "SUB"); (case h2 => k_extra "KEEP"); (case h3 => exact ⟨_, _, rfl, True.intro, fun P hP => hP _ _ _ _ _ (by decide) hk0 hlen hI⟩))
  )) only [↓wt]
theorem listk_tells {w : World} {i : Nat} {t : Tok} (hi : i < 3) : Tells w 1 648 [.str (kS i) t] [] [] (Gives0 fun P => P (.bool false)) := by
  refine wo ?_
  simp (disch :=
  k_dflt (
  refine wk ?_
  have hL : ([Str.ofString "list", Str.ofString "expression", Str.ofString "pairlist"].any fun x => x == kS i) = false := by rcases three hi with rfl | rfl | rfl <;> decide
  refine' tells_plainP (binds := [(Str.ofString "kind", .str (kS i) t)]) ?k1 ?k2 ?k3 ?k4 ?k5 ?k6 ?k7 ?k8 ?k9 ?_
  case k1 => k_is
  case k2 => k_is
  case k3 => exact fun s => BindsTo.of_eq rfl
  case k4 => exact locs rfl
  case k5 => decide
  case k6 => rfl
  case k7 => rfl
  case k8 => rfl
  case k9 => decide
  intro p loose mean mg mb dp un gd cn cs L a ccd cl outer base g L' s Pq B F K N T hdp hun hPq e9 A9
  (try dsimp only)
  repeat' (k_extra "S0"; k_extra "S1")
  (try rw [hL])
  ((try dsimp only); refine' post_of [] _ rfl ?F ?N ?h1 ?h2 ?h3; (case F => k_asm); (case N => k_asm); (case h1 => k_extra "SUB"); (case h2 => k_extra "KEEP"); (case h3 => exact gives0 fun P hP => hP))
  )) only [↓wt]
theorem result_tells {w : World} {i : Nat} {t : Tok} (hi : i < 3) : Tells w 1 662 [.str (kS i) t] [] [] (Gives0 fun P => P (.str (kS i) t)) := by
  refine wo ?_
  simp (disch :=
  k_dflt (
  refine wk ?_
  have hp := (kS_no hi).1
  refine' tells_plainP (binds := [(Str.ofString "kind", .str (kS i) t)]) ?k1 ?k2 ?k3 ?k4 ?k5 ?k6 ?k7 ?k8 ?k9 ?_
  case k1 => k_is
  case k2 => k_is
  case k3 => exact fun s => BindsTo.of_eq rfl
  case k4 => exact locs rfl
  case k5 => decide
  case k6 => rfl
  case k7 => rfl
  case k8 => rfl
  case k9 => decide
  intro p loose mean mg mb dp un gd cn cs L a ccd cl outer base g L' s Pq B F K N T hdp hun hPq e9 A9
  (try dsimp only)
  repeat' (k_extra "S0"; k_extra "S1")
  ((try dsimp only); refine' post_of [] _ rfl ?F ?N ?h1 ?h2 ?h3; (case F => k_asm); (case N => k_asm); (case h1 => k_extra "SUB"); (case h2 => k_extra "KEEP"); (case h3 => exact gives0 fun P hP => hP))
  )) only [↓wt]
theorem isvec_tells {w : World} {x d : Addr} {es : List DictEntry} {n1 : Nat} : Tells w 1 174 [.ref x] [(x, instObj 113 d), (d, dictOf es n1)] [] (Gives0 fun P => P (.bool true)) := by
  refine wo ?_
  simp (disch :=
  k_dflt (
  refine wk ?_
  refine' tells_plainP (binds := [(Str.ofString "v", .ref x)]) ?k1 ?k2 ?k3 ?k4 ?k5 ?k6 ?k7 ?k8 ?k9 ?_
  case k1 => k_is
  case k2 => k_is
  case k3 => exact fun s => BindsTo.of_eq rfl
  case k4 => exact locs rfl
  case k5 => decide
  case k6 => rfl
  case k7 => rfl
  case k8 => rfl
  case k9 => decide
  intro p loose mean mg mb dp un gd cn cs L a ccd cl outer base g L' s Pq B F K N T hdp hun hPq e9 A9
  (try dsimp only)
  repeat' (k_extra "S0"; k_extra "S1")
  ((try dsimp only); refine' post_of [] _ rfl ?F ?N ?h1 ?h2 ?h3; (case F => k_asm); (case N => k_asm); (case h1 => k_extra "SUB"); (case h2 => k_extra "KEEP"); (case h3 => exact gives0 fun P hP => hP))
  )) only [↓wt]
theorem kwC1_1 : True := by
  k_with "call ref" => (k_here; (with_reducible show wpAny _ _ (call (Value.ref 174) _) _ _ _); k_dflt (refine' tells_call0 (isvec_tells) ?zqkB ?zqkF ?zqkX ?zqkN ?zqkS ?zqkT ?zqkK ?zqkd ?zqku ?_; k_extra "CA"; (case zqkS => k_extra "SUK"); k_extra "CB"; k_whole; intro  h' tk' F' N'; k_extra "CZ"))
  trivial
theorem valvec_tells {w : World} {x y d : Addr} {es : List DictEntry} {n1 : Nat} : Tells w 2 697 [.ref x, .ref y] [(x, instObj 113 d), (d, dictOf es n1)] [] (Gives0 fun P => P (.ref x)) := by
  refine wo ?_
  simp (disch :=
  k_dflt (
  refine wk ?_
  refine' tells_plainP (binds := [(Str.ofString "value", .ref x), (Str.ofString "target", .ref y)]) ?k1 ?k2 ?k3 ?k4 ?k5 ?k6 ?k7 ?k8 ?k9 ?_
  case k1 => k_is
  case k2 => k_is
  case k3 => exact fun s => BindsTo.of_eq rfl
  case k4 => exact locs rfl
  case k5 => decide
  case k6 => rfl
  case k7 => rfl
  case k8 => rfl
  case k9 => decide
  intro p loose mean mg mb dp un gd cn cs L a ccd cl outer base g L' s Pq B F K N T hdp hun hPq e9 A9
  (try dsimp only)
  repeat' (k_extra "S0"; k_extra "S1")
  ((try dsimp only); refine' post_of [] _ rfl ?F ?N ?h1 ?h2 ?h3; (case F => k_asm); (case N => k_asm); (case h1 => k_extra "SUB"); (case h2 => k_extra "KEEP"); (case h3 => exact gives0 fun P hP => hP))
  )) only [↓wt]
end
section
open PySem PySem.W PyProof.Rows PySem.Calls
set_option Elab.async false
set_option maxRecDepth 100000 
set_option maxHeartbeats 8000000 
theorem kwC2_0 : True := by
  k_with_none
  k_with "MEM" => first | (with_reducible exact List.mem_cons_self) | ((with_reducible refine List.mem_cons_of_mem _ ?_); k_extra "MEM")
  k_with "ENTER" => (refine' code_defP ?zqk1 ?zqk2 ?zqk3 ?zqk4 ?zqk5 ?zqkA ?zqkF ?zqkK ?zqk6 ?zqk7 ?zqk8 ?zqk9 ?zqkB ?_ ?zqc2 ?zqc3 ?zqc4 ?zqc5; (case zqkA => exact rfl); (case zqkF => exact rfl); (case zqkK => exact rfl); (case zqk1 => k_asm); (case zqk2 => k_asm); (case zqk3 => k_asm); (case zqk4 => k_asm); (case zqk5 => k_asm); (case zqk6 => k_is); (case zqk7 => k_is); (case zqk8 => k_room); (case zqk9 => first | exact BindsTo.of_eq rfl | exact binds_K (by k_in) rfl (by k_is) rfl rfl rfl); (case zqc5 => decide); (case zqkB => exact locs rfl); (case zqc2 => exact rfl); (case zqc3 => exact rfl); (case zqc4 => exact rfl); k_whole; intro g' L' h' Q' FG' F' N' B' X' T' hQ' e9 A9; (try dsimp only); (try k_lift B'); (try k_fold))
  k_with "S0" => ((fail_if_success (with_reducible show Post _ _ _ _ _ _ _ _)); (fail_if_success (with_reducible show LoopP _ _ _ _ _ _ _ _)); (fail_if_success (with_reducible show CmpP _ _ _ _ _ _ _ _ _ _ _ _ _ _ _)))
  k_with "S1" => first | (k_unfold; (try dsimp only)) | (k_end; wrow_close) | walk1 | (with_reducible refine hand (by assumption) ?_; try dsimp only) | (dsimp only; walk1) | (leave1; try dsimp only)
  k_with "ROOM" => first | (refine' room0 ?zqh ?zqe; (case zqh => assumption); (case zqe => exact rfl)) | (refine' room1 ?zqh ?zqe; (case zqh => assumption); (case zqe => exact rfl)) | (refine' room2 ?zqh ?zqe; (case zqh => assumption); (case zqe => exact rfl)) | (refine' room3 ?zqh ?zqe; (case zqh => assumption); (case zqe => exact rfl)) | (refine' roomz ?zqh; (case zqh => assumption)) | ktr_room
  k_with "UNITS" => first | (refine' room0 ?zqh ?zqe; (case zqh => assumption); (case zqe => exact rfl)) | (refine' room1 ?zqh ?zqe; (case zqh => assumption); (case zqe => exact rfl)) | (refine' room2 ?zqh ?zqe; (case zqh => assumption); (case zqe => exact rfl)) | (refine' room3 ?zqh ?zqe; (case zqh => assumption); (case zqe => exact rfl)) | exact lt_num rfl | ktr_units
  k_with "AR" => first | assumption | exact Nat.le_max_right _ _ | exact Nat.le_max_left _ _ | exact Nat.max_lt.mpr ⟨by assumption, by assumption⟩ | (refine' le_up ?zqh ?zqe; (case zqh => assumption); (case zqe => exact rfl)) | omega
  k_with "SUT" => first | exact sub_self | (refine sub_skip ?_; k_extra "SUT")
  k_with "SUB" => first | exact sub_nil | ((with_reducible refine' sub_cons ?zqsm ?_); (case zqsm => k_mem); k_extra "SUB") | k_extra "SUT"
  k_with "SUK" => first | exact sub_nil | k_extra "SUT" | k_extra "SUB"
  k_with "KEEP" => first | (refine keep_hd (List.Mem.head _) ?_; k_extra "KEEP") | exact keep_of (by k_extra "SUK") | ((with_reducible refine' keep_cons ?zqkm ?_); (case zqkm => k_mem); k_extra "KEEP")
  k_with "APQ" => (rename Apart _ _ => h9; first | exact Apart.at h9 (by k_extra "MEM") (by k_extra "MEM") | exact ap_at h9 (by k_extra "MEM") (by k_extra "MEM") | (clear h9; k_extra "APQ"))
  k_with "ANQ" => (rename AllNe _ _ => h9; first | exact AllNe.at h9 (by k_extra "MEM") | exact an_at h9 (by k_extra "MEM") | (clear h9; k_extra "ANQ"))
  k_with "ALQ" => (rename AllLt _ _ => h9; first | exact lt_ne h9 (by k_extra "MEM") | exact lt_en h9 (by k_extra "MEM") | exact lt_ne2 h9 (by assumption) (by k_extra "MEM") | exact lt_en2 h9 (by assumption) (by k_extra "MEM") | (clear h9; k_extra "ALQ"))
  k_with "NEQ" => first | assumption | exact Ne.symm (by assumption) | exact Nat.ne_of_lt (by assumption) | exact Nat.ne_of_gt (by assumption) | k_extra "ALQ" | k_extra "ANQ" | k_extra "APQ" | omega
  k_with "APS" => (rename Apart _ _ => h9; first | exact Apart.subA h9 rfl (by k_extra "SUK") | (clear h9; k_extra "APS"))
  k_with "NE1" => (refine neN ?_; (try dsimp only); k_extra "NEQ")
  k_with "ALL" => first | exact all_nil | (rename AllLt _ _ => h9; exact lt_sub h9 (by k_extra "SUT")) | (refine' all_cons ?zqa ?zqb; (case zqa => k_ne); (case zqb => k_all))
  k_with "ALN" => first | exact ne_nil | (refine ne_cons ?_ ?_; (focus ((try dsimp only); k_extra "NEQ")); k_extra "ALN")
  k_with "APM" => first | exact ap_nil | k_extra "APS" | (refine ap_cons ?_ ?_; (focus k_extra "ALN"); k_extra "APM")
  k_with "CA" => ((case zqkB => k_asm); (case zqkF => k_asm); (case zqkX => k_asm); (case zqkN => k_asm))
  k_with "CB" => ((case zqkT => k_asm); (case zqkK => first | exact rfl | assumption); (case zqkd => k_extra "ROOM"); (case zqku => k_extra "UNITS"))
  k_with "CE" => all_goals ((try ((with_reducible rename News _ _ _ _ => h9); simp only [List.nil_append, List.cons_append] at h9)); (try ((with_reducible rename Apart [] _ => h7); clear h7)); (try dsimp only [Option.getD_some, Option.getD_none]); (try k_sweep); (try k_fold))
  k_with "CZ" => all_goals ((try dsimp only [Option.getD_some, Option.getD_none]); (try k_sweep); (try k_fold))
  k_with "call builtin:len" => (k_here; (with_reducible show wpAny _ _ (call (Value.builtin "len") [Value.ref _]) _ _ _); k_dflt (refine' len_sym ?zqk1 ?zqk2 ?zqk3 ?_; (case zqk1 => k_asm); (case zqk2 => k_mem); (case zqk3 => k_extra "AR"); k_whole))
  k_with "getMethod ref" => (k_here; (with_reducible show wpAny _ _ (getMethod (Value.ref _) (PySem.Str.ofString "get") _) _ _ _); k_dflt (refine' get_method ?zqk1 ?zqk2 ?zqk3 ?_; (case zqk1 => k_asm); (case zqk2 => k_mem); (case zqk3 => with_reducible assumption); k_whole))
  k_with "call builtin:dict.get" => (k_here; (with_reducible show wpAny _ _ (call (Value.builtin "dict.get") [Value.ref _, Value.str _ _]) _ _ _); k_dflt (refine' get_call ?zqk0 ?zqk1 ?zqk2 ?zqk3 ?_; (case zqk1 => k_asm); (case zqk2 => k_mem); (case zqk3 => with_reducible assumption); (case zqk0 => with_reducible assumption); k_whole))
  k_with "LOCA" => first | exact LocArgs.nil | (refine' LocArgs.cons ?zqlk ?zqld ?zqlv ?zqlt; (case zqlk => kernel_rfl!); (case zqld => kernel_rfl); (case zqlv => first | rfl | assumption); (case zqlt => k_extra "LOCA"))
  k_with "eval Call" => (k_here; (with_reducible show wpAny _ _ (eval (Expr.Call (Expr.Name _ _) (Expr.Name _ _ :: _) [] _) _) _ _ _); first | ((with_reducible refine' callO_loc ?zqF ?zqX ?zqT ?zqe ?zqk ?zqa ?zqb ?zqc ?zql ?_); k_dflt ((case zqF => k_asm); (case zqX => k_asm); (case zqT => k_asm); (case zqa => exact rfl); (case zqb => kernel_rfl!); (case zqc => kernel_rfl); (case zqe => k_is); (case zqk => k_is); (case zql => k_extra "LOCA"); k_whole)) | ((with_reducible refine' callC_loc ?zqF ?zqX ?zqT ?zqe ?zqk ?zqa ?zqb ?zqc ?zql ?_); k_dflt ((case zqF => k_asm); (case zqX => k_asm); (case zqT => k_asm); (case zqa => exact rfl); (case zqb => kernel_rfl!); (case zqc => kernel_rfl); (case zqe => k_is); (case zqk => k_is); (case zql => k_extra "LOCA"); k_whole)))
  k_with "eval Attribute Name" => (k_here; (with_reducible refine' attrO_loc ?zqF ?zqv ?zqa ?zqb ?zqc ?_); k_dflt ((case zqF => k_asm); (case zqa => exact rfl); (case zqb => kernel_rfl!); (case zqc => kernel_rfl); (case zqv => first | rfl | assumption); k_whole))
  k_with "ite" => (k_here; first | (k_closed; first | ((with_reducible refine ite_pos ?zqk2 ?_); k_dflt (case zqk2 => decide)) | ((with_reducible refine ite_neg ?zqk2 ?_); k_dflt (case zqk2 => decide))) | (refine' ite_bf ?zqk1 ?_; (case zqk1 => first | assumption | exact decide_eq_false (by omega) | exact beq_eq_false_iff_ne.mpr (by omega))) | (refine' ite_bt ?zqk1 ?_; (case zqk1 => first | assumption | exact decide_eq_true (by omega) | exact beq_iff_eq.mpr (by omega))))
  k_with "call type:dict" => (k_here; (with_reducible show wpAny _ _ (call (Value.type "dict") [Value.ref _]) _ _ _); k_dflt (refine' dict_copyK ?zqF ?zqN ?zqb ?zqm ?zqD ?zql ?zqz ?_; (case zqF => k_asm); (case zqN => k_asm); (case zqb => exact Top.nolimit (by k_asm)); (case zqm => k_mem); (case zqD => with_reducible assumption); (case zql => with_reducible assumption); (case zqz => omega); k_whole); intro d' h' o' F' N' l1 lo' hd'; (try k_lt l1))
  k_with "OWN" => (intro p9 hp9; repeat' (first | exact hp9 | refine List.mem_append.mpr (Or.inr ?_) | refine List.mem_cons_of_mem _ ?_))
  k_with "eval Name" => (k_here; first | ((with_reducible refine' nameO_L ?zqF ?zqv ?_ ?zqa ?zqb ?zqc); k_dflt ((case zqF => k_asm); (case zqa => exact rfl); (case zqb => kernel_rfl!); (case zqc => kernel_rfl); (case zqv => first | rfl | assumption); k_whole)) | ((with_reducible refine' nameO_K ?zqF ?zqX ?zqT ?zqe ?_ ?zqa ?zqb ?zqc); k_dflt ((case zqF => k_asm); (case zqX => k_asm); (case zqT => k_asm); (case zqa => exact rfl); (case zqb => kernel_rfl!); (case zqc => kernel_rfl); (case zqe => k_is); k_whole)) | ((with_reducible refine' nameC_L ?zqF ?zqv ?_ ?zqa ?zqb ?zqc); k_dflt ((case zqF => k_asm); (case zqa => exact rfl); (case zqb => kernel_rfl!); (case zqc => kernel_rfl); (case zqv => first | rfl | assumption); k_whole)) | ((with_reducible refine' nameC_K ?zqF ?zqX ?zqT ?zqe ?_ ?zqa ?zqb ?zqc); k_dflt ((case zqF => k_asm); (case zqX => k_asm); (case zqT => k_asm); (case zqa => exact rfl); (case zqb => kernel_rfl!); (case zqc => kernel_rfl); (case zqe => k_is); k_whole)))
  trivial
theorem getattr_none {w : World} {x d : Addr} {t1 t2 t3 t4 t5 : Tok} {kind items sh lo : Value} {n1 : Nat} {nm : Str} {tn : Tok} :
    Tells w 1 202 [.ref x, .str nm tn] [(x, instObj 113 d), (d, dictOf (vd w.params t1 t2 t3 t4 t5 kind items .none sh lo) n1)] [] (Gives0 fun P => P .none) := by
  refine wo ?_
  simp (disch :=
  k_dflt (
  refine wk ?_
  refine' tells_plainP (binds := [(Str.ofString "v", .ref x), (Str.ofString "name", .str nm tn)]) ?k1 ?k2 ?k3 ?k4 ?k5 ?k6 ?k7 ?k8 ?k9 ?_
  case k1 => k_is
  case k2 => k_is
  case k3 => exact fun s => BindsTo.of_eq rfl
  case k4 => exact locs rfl
  case k5 => decide
  case k6 => rfl
  case k7 => rfl
  case k8 => rfl
  case k9 => decide
  intro p loose mean mg mb dp un gd cn cs L a ccd cl outer base g L' s Pq B F K N T hdp hun hPq e9 A9
  (try dsimp only)
  repeat' (k_extra "S0"; k_extra "S1")
  ((try dsimp only); refine' post_of [] _ rfl ?F ?N ?h1 ?h2 ?h3; (case F => k_asm); (case N => k_asm); (case h1 => k_extra "SUB"); (case h2 => k_extra "KEEP"); (case h3 => exact gives0 fun P hP => hP))
  )) only [↓wt]
theorem getattr_dict {w : World} {x d : Addr} {t1 t2 t3 t4 t5 : Tok} {kind items sh lo : Value} {n1 : Nat} {nm : Str} {tn : Tok} {da : Addr} {o : Obj} {kvs : List (Str × Value)} {ov : Option Value} (hD : o.IsDictOf (strKind PySem.Challenge.rw_pq1344_01.row.prog w) kvs) (hlo : (da == sysModules) = false) (hv : valueAt kvs nm = ov) :
    Tells w 1 202 [.ref x, .str nm tn] [(x, instObj 113 d), (d, dictOf (vd w.params t1 t2 t3 t4 t5 kind items (.ref da) sh lo) n1), (da, o)] [] (Gives0 fun P => P (ov.getD .none)) := by
  refine wo ?_
  simp (disch :=
  k_dflt (
  refine wk ?_
  subst hv
  refine' tells_plainP (binds := [(Str.ofString "v", .ref x), (Str.ofString "name", .str nm tn)]) ?k1 ?k2 ?k3 ?k4 ?k5 ?k6 ?k7 ?k8 ?k9 ?_
  case k1 => k_is
  case k2 => k_is
  case k3 => exact fun s => BindsTo.of_eq rfl
  case k4 => exact locs rfl
  case k5 => decide
  case k6 => rfl
  case k7 => rfl
  case k8 => rfl
  case k9 => decide
  intro p loose mean mg mb dp un gd cn cs L a ccd cl outer base g L' s Pq B F K N T hdp hun hPq e9 A9
  (try dsimp only)
  repeat' (k_extra "S0"; k_extra "S1")
  ((try dsimp only); refine' post_of [] _ rfl ?F ?N ?h1 ?h2 ?h3; (case F => k_asm); (case N => k_asm); (case h1 => k_extra "SUB"); (case h2 => k_extra "KEEP"); (case h3 => exact gives0 fun P hP => hP))
  )) only [↓wt]
theorem kwC2_1 : True := by
  k_with "call ref" => (k_here; (with_reducible show wpAny _ _ (call (Value.ref 202) _) _ _ _); k_dflt (first | (refine' tells_call0 (getattr_none) ?zqkB ?zqkF ?zqkX ?zqkN ?zqkS ?zqkT ?zqkK ?zqkd ?zqku ?_; k_extra "CA"; (case zqkS => k_extra "SUK"); k_extra "CB"; k_whole; intro  h' tk' F' N'; k_extra "CZ") | (refine' tells_call0 (getattr_dict ?zqhD ?zqhlo ?zqhv) ?zqkB ?zqkF ?zqkX ?zqkN ?zqkS ?zqkT ?zqkK ?zqkd ?zqku ?_; k_extra "CA"; (case zqkS => k_extra "SUK"); (case zqhD => with_reducible assumption); (case zqhlo => with_reducible assumption); (case zqhv => assumption); k_extra "CB"; k_whole; intro  h' tk' F' N'; k_extra "CZ")))
  trivial
theorem dim_none {w : World} {x d : Addr} {t1 t2 t3 t4 t5 : Tok} {kind items sh lo : Value} {n1 : Nat} :
    Tells w 2 228 [.ref x] [(x, instObj 113 d), (d, dictOf (vd w.params t1 t2 t3 t4 t5 kind items .none sh lo) n1)] [] (Gives0 fun P => P .none) := by
  refine wo ?_
  simp (disch :=
  k_dflt (
  refine wk ?_
  refine' tells_plainP (binds := [(Str.ofString "v", .ref x)]) ?k1 ?k2 ?k3 ?k4 ?k5 ?k6 ?k7 ?k8 ?k9 ?_
  case k1 => k_is
  case k2 => k_is
  case k3 => exact fun s => BindsTo.of_eq rfl
  case k4 => exact locs rfl
  case k5 => decide
  case k6 => rfl
  case k7 => rfl
  case k8 => rfl
  case k9 => decide
  intro p loose mean mg mb dp un gd cn cs L a ccd cl outer base g L' s Pq B F K N T hdp hun hPq e9 A9
  (try dsimp only)
  repeat' (k_extra "S0"; k_extra "S1")
  ((try dsimp only); refine' post_of [] _ rfl ?F ?N ?h1 ?h2 ?h3; (case F => k_asm); (case N => k_asm); (case h1 => k_extra "SUB"); (case h2 => k_extra "KEEP"); (case h3 => exact gives0 fun P hP => hP))
  )) only [↓wt]
theorem dim_bare {w : World} {x d : Addr} {t1 t2 t3 t4 t5 : Tok} {kind items sh lo : Value} {n1 : Nat} {da : Addr} {o : Obj} {kvs : List (Str × Value)} (hD : o.IsDictOf (strKind PySem.Challenge.rw_pq1344_01.row.prog w) kvs) (hlo : (da == sysModules) = false) (hv : valueAt kvs (Str.ofString "dim") = none) :
    Tells w 2 228 [.ref x] [(x, instObj 113 d), (d, dictOf (vd w.params t1 t2 t3 t4 t5 kind items (.ref da) sh lo) n1), (da, o)] [] (Gives0 fun P => P .none) := by
  refine wo ?_
  simp (disch :=
  k_dflt (
  refine wk ?_
  refine' tells_plainP (binds := [(Str.ofString "v", .ref x)]) ?k1 ?k2 ?k3 ?k4 ?k5 ?k6 ?k7 ?k8 ?k9 ?_
  case k1 => k_is
  case k2 => k_is
  case k3 => exact fun s => BindsTo.of_eq rfl
  case k4 => exact locs rfl
  case k5 => decide
  case k6 => rfl
  case k7 => rfl
  case k8 => rfl
  case k9 => decide
  intro p loose mean mg mb dp un gd cn cs L a ccd cl outer base g L' s Pq B F K N T hdp hun hPq e9 A9
  (try dsimp only)
  repeat' (k_extra "S0"; k_extra "S1")
  ((try dsimp only); refine' post_of [] _ rfl ?F ?N ?h1 ?h2 ?h3; (case F => k_asm); (case N => k_asm); (case h1 => k_extra "SUB"); (case h2 => k_extra "KEEP"); (case h3 => exact gives0 fun P hP => hP))
  )) only [↓wt]
theorem dimnames_none {w : World} {x d : Addr} {t1 t2 t3 t4 t5 : Tok} {kind items sh lo : Value} {n1 : Nat} :
    Tells w 2 233 [.ref x] [(x, instObj 113 d), (d, dictOf (vd w.params t1 t2 t3 t4 t5 kind items .none sh lo) n1)] [] (Gives0 fun P => P .none) := by
  refine wo ?_
  simp (disch :=
  k_dflt (
  refine wk ?_
  refine' tells_plainP (binds := [(Str.ofString "v", .ref x)]) ?k1 ?k2 ?k3 ?k4 ?k5 ?k6 ?k7 ?k8 ?k9 ?_
  case k1 => k_is
  case k2 => k_is
  case k3 => exact fun s => BindsTo.of_eq rfl
  case k4 => exact locs rfl
  case k5 => decide
  case k6 => rfl
  case k7 => rfl
  case k8 => rfl
  case k9 => decide
  intro p loose mean mg mb dp un gd cn cs L a ccd cl outer base g L' s Pq B F K N T hdp hun hPq e9 A9
  (try dsimp only)
  repeat' (k_extra "S0"; k_extra "S1")
  ((try dsimp only); refine' post_of [] _ rfl ?F ?N ?h1 ?h2 ?h3; (case F => k_asm); (case N => k_asm); (case h1 => k_extra "SUB"); (case h2 => k_extra "KEEP"); (case h3 => exact gives0 fun P hP => hP))
  )) only [↓wt]
theorem dimnames_bare {w : World} {x d : Addr} {t1 t2 t3 t4 t5 : Tok} {kind items sh lo : Value} {n1 : Nat} {da : Addr} {o : Obj} {kvs : List (Str × Value)} (hD : o.IsDictOf (strKind PySem.Challenge.rw_pq1344_01.row.prog w) kvs) (hlo : (da == sysModules) = false) (hv : valueAt kvs (Str.ofString "dimnames") = none) :
    Tells w 2 233 [.ref x] [(x, instObj 113 d), (d, dictOf (vd w.params t1 t2 t3 t4 t5 kind items (.ref da) sh lo) n1), (da, o)] [] (Gives0 fun P => P .none) := by
  refine wo ?_
  simp (disch :=
  k_dflt (
  refine wk ?_
  refine' tells_plainP (binds := [(Str.ofString "v", .ref x)]) ?k1 ?k2 ?k3 ?k4 ?k5 ?k6 ?k7 ?k8 ?k9 ?_
  case k1 => k_is
  case k2 => k_is
  case k3 => exact fun s => BindsTo.of_eq rfl
  case k4 => exact locs rfl
  case k5 => decide
  case k6 => rfl
  case k7 => rfl
  case k8 => rfl
  case k9 => decide
  intro p loose mean mg mb dp un gd cn cs L a ccd cl outer base g L' s Pq B F K N T hdp hun hPq e9 A9
  (try dsimp only)
  repeat' (k_extra "S0"; k_extra "S1")
  ((try dsimp only); refine' post_of [] _ rfl ?F ?N ?h1 ?h2 ?h3; (case F => k_asm); (case N => k_asm); (case h1 => k_extra "SUB"); (case h2 => k_extra "KEEP"); (case h3 => exact gives0 fun P hP => hP))
  )) only [↓wt]
theorem dim_has {w : World} {x d : Addr} {t1 t2 t3 t4 t5 : Tok} {kind items sh lo : Value} {n1 : Nat} {da : Addr} {o : Obj} {kvs : List (Str × Value)} {xd dd ld : Addr} {u1 u2 u3 u4 u5 : Tok} {dkind datt dsh dlo : Value} {dn1 nl : Nat} {us : List Value} (hD : o.IsDictOf (strKind PySem.Challenge.rw_pq1344_01.row.prog w) kvs) (hlo : (da == sysModules) = false) (hv : valueAt kvs (Str.ofString "dim") = some (.ref xd)) (hlen : us.length ≤ 600) :
    Tells w 2 228 [.ref x] [(x, instObj 113 d), (d, dictOf (vd w.params t1 t2 t3 t4 t5 kind items (.ref da) sh lo) n1), (da, o), (xd, instObj 113 dd), (dd, dictOf (vd w.params u1 u2 u3 u4 u5 dkind (.ref ld) datt dsh dlo) dn1), (ld, listOf us.toArray nl)] [] (Gives [(x, instObj 113 d), (d, dictOf (vd w.params t1 t2 t3 t4 t5 kind items (.ref da) sh lo) n1), (da, o), (xd, instObj 113 dd), (dd, dictOf (vd w.params u1 u2 u3 u4 u5 dkind (.ref ld) datt dsh dlo) dn1), (ld, listOf us.toArray nl)] fun P => ∀ l n, P (.ref l) [(l, listOf us.toArray n)]) := by
  refine wo ?_
  simp (disch :=
  k_dflt (
  refine wk ?_
  refine' tells_plainP (binds := [(Str.ofString "v", .ref x)]) ?k1 ?k2 ?k3 ?k4 ?k5 ?k6 ?k7 ?k8 ?k9 ?_
  case k1 => k_is
  case k2 => k_is
  case k3 => exact fun s => BindsTo.of_eq rfl
  case k4 => exact locs rfl
  case k5 => decide
  case k6 => rfl
  case k7 => rfl
  case k8 => rfl
  case k9 => decide
  intro p loose mean mg mb dp un gd cn cs L a ccd cl outer base g L' s Pq B F K N T hdp hun hPq e9 A9
  (try dsimp only)
  repeat' (k_extra "S0"; k_extra "S1")
  ((try dsimp only); refine' post_of [(_, _)] _ rfl ?F ?N ?h1 ?h2 ?h3; (case F => k_asm); (case N => k_asm); (case h1 => k_extra "SUB"); (case h2 => k_extra "KEEP"); (case h3 => exact ⟨⟨AllNe.of (by k_extra "ALN"), True.intro⟩, fun P hP => hP _ _⟩))
  )) only [↓wt]
theorem kwC2_2 : True := by
  k_with "call ref" => (k_here; (with_reducible show wpAny _ _ (call (Value.ref 228) _) _ _ _); k_dflt (first | (refine' tells_call0 (dim_none) ?zqkB ?zqkF ?zqkX ?zqkN ?zqkS ?zqkT ?zqkK ?zqkd ?zqku ?_; k_extra "CA"; (case zqkS => k_extra "SUK"); k_extra "CB"; k_whole; intro  h' tk' F' N'; k_extra "CZ") | (refine' tells_call0 (dim_bare ?zqhD ?zqhlo ?zqhv) ?zqkB ?zqkF ?zqkX ?zqkN ?zqkS ?zqkT ?zqkK ?zqkd ?zqku ?_; k_extra "CA"; (case zqkS => k_extra "SUK"); (case zqhD => with_reducible assumption); (case zqhlo => with_reducible assumption); (case zqhv => assumption); k_extra "CB"; k_whole; intro  h' tk' F' N'; k_extra "CZ") | (refine' tells_callG (dim_has ?zqhD ?zqhlo ?zqhv ?zqhlen) ?zqkB ?zqkF ?zqkX ?zqkN ?zqkS ?zqkT ?zqkK ?zqkd ?zqku ?_; k_extra "CA"; (case zqhD => with_reducible assumption); (case zqhv => with_reducible assumption); (case zqkS => k_extra "SUK"); (case zqhlo => with_reducible assumption); (case zqhlen => k_extra "AR"); k_extra "CB"; k_whole; intro l9Z n9Z h' tk' F' N' A'; k_extra "CE")))
  trivial
theorem names_none {w : World} {x d : Addr} {t1 t2 t3 t4 t5 kt : Tok} {ks : Str} {items sh lo : Value} {n1 : Nat} (h1 : (ks == Str.ofString "language") = false) (h2 : (ks == Str.ofString "environment") = false) :
    Tells w 3 221 [.ref x] [(x, instObj 113 d), (d, dictOf (vd w.params t1 t2 t3 t4 t5 (.str ks kt) items .none sh lo) n1)] [] (Gives0 fun P => P .none) := by
  refine wo ?_
  simp (disch :=
  k_dflt (
  refine wk ?_
  refine' tells_plainP (binds := [(Str.ofString "v", .ref x)]) ?k1 ?k2 ?k3 ?k4 ?k5 ?k6 ?k7 ?k8 ?k9 ?_
  case k1 => k_is
  case k2 => k_is
  case k3 => exact fun s => BindsTo.of_eq rfl
  case k4 => exact locs rfl
  case k5 => decide
  case k6 => rfl
  case k7 => rfl
  case k8 => rfl
  case k9 => decide
  intro p loose mean mg mb dp un gd cn cs L a ccd cl outer base g L' s Pq B F K N T hdp hun hPq e9 A9
  (try dsimp only)
  repeat' (k_extra "S0"; k_extra "S1")
  ((try dsimp only); refine' post_of [] _ rfl ?F ?N ?h1 ?h2 ?h3; (case F => k_asm); (case N => k_asm); (case h1 => k_extra "SUB"); (case h2 => k_extra "KEEP"); (case h3 => exact gives0 fun P hP => hP))
  )) only [↓wt]
theorem names_bare {w : World} {x d : Addr} {t1 t2 t3 t4 t5 kt : Tok} {ks : Str} {items sh lo : Value} {n1 : Nat} {da : Addr} {o : Obj} {kvs : List (Str × Value)} (h1 : (ks == Str.ofString "language") = false) (h2 : (ks == Str.ofString "environment") = false) (hD : o.IsDictOf (strKind PySem.Challenge.rw_pq1344_01.row.prog w) kvs) (hlo : (da == sysModules) = false) (hv1 : valueAt kvs (Str.ofString "dim") = none) (hv2 : valueAt kvs (Str.ofString "names") = none) :
    Tells w 3 221 [.ref x] [(x, instObj 113 d), (d, dictOf (vd w.params t1 t2 t3 t4 t5 (.str ks kt) items (.ref da) sh lo) n1), (da, o)] [] (Gives0 fun P => P .none) := by
  refine wo ?_
  simp (disch :=
  k_dflt (
  refine wk ?_
  refine' tells_plainP (binds := [(Str.ofString "v", .ref x)]) ?k1 ?k2 ?k3 ?k4 ?k5 ?k6 ?k7 ?k8 ?k9 ?_
  case k1 => k_is
  case k2 => k_is
  case k3 => exact fun s => BindsTo.of_eq rfl
  case k4 => exact locs rfl
  case k5 => decide
  case k6 => rfl
  case k7 => rfl
  case k8 => rfl
  case k9 => decide
  intro p loose mean mg mb dp un gd cn cs L a ccd cl outer base g L' s Pq B F K N T hdp hun hPq e9 A9
  (try dsimp only)
  repeat' (k_extra "S0"; k_extra "S1")
  ((try dsimp only); refine' post_of [] _ rfl ?F ?N ?h1 ?h2 ?h3; (case F => k_asm); (case N => k_asm); (case h1 => k_extra "SUB"); (case h2 => k_extra "KEEP"); (case h3 => exact gives0 fun P hP => hP))
  )) only [↓wt]
theorem names_dim {w : World} {x d : Addr} {t1 t2 t3 t4 t5 kt : Tok} {ks : Str} {items sh lo : Value} {n1 : Nat} {da : Addr} {o : Obj} {kvs : List (Str × Value)} {xd dd ld : Addr} {u1 u2 u3 u4 u5 : Tok} {dkind datt dsh dlo : Value} {dn1 nl : Nat} {us : List Value} (h1 : (ks == Str.ofString "language") = false) (h2 : (ks == Str.ofString "environment") = false) (hD : o.IsDictOf (strKind PySem.Challenge.rw_pq1344_01.row.prog w) kvs) (hlo : (da == sysModules) = false) (hv : valueAt kvs (Str.ofString "dim") = some (.ref xd)) (hv2 : valueAt kvs (Str.ofString "names") = none) (hlen : us.length = 2) :
    Tells w 3 221 [.ref x] [(x, instObj 113 d), (d, dictOf (vd w.params t1 t2 t3 t4 t5 (.str ks kt) items (.ref da) sh lo) n1), (da, o), (xd, instObj 113 dd), (dd, dictOf (vd w.params u1 u2 u3 u4 u5 dkind (.ref ld) datt dsh dlo) dn1), (ld, listOf us.toArray nl)] [] (Gives0 fun P => P .none) := by
  refine wo ?_
  simp (disch :=
  k_dflt (
  refine wk ?_
  refine' tells_plainP (binds := [(Str.ofString "v", .ref x)]) ?k1 ?k2 ?k3 ?k4 ?k5 ?k6 ?k7 ?k8 ?k9 ?_
  case k1 => k_is
  case k2 => k_is
  case k3 => exact fun s => BindsTo.of_eq rfl
  case k4 => exact locs rfl
  case k5 => decide
  case k6 => rfl
  case k7 => rfl
  case k8 => rfl
  case k9 => decide
  intro p loose mean mg mb dp un gd cn cs L a ccd cl outer base g L' s Pq B F K N T hdp hun hPq e9 A9
  (try dsimp only)
  repeat' (k_extra "S0"; k_extra "S1")
  ((try dsimp only); refine' post_of [] _ rfl ?F ?N ?h1 ?h2 ?h3; (case F => k_asm); (case N => k_asm); (case h1 => k_extra "SUB"); (case h2 => k_extra "KEEP"); (case h3 => exact gives0 fun P hP => hP))
  )) only [↓wt]
theorem names_has {w : World} {x d : Addr} {t1 t2 t3 t4 t5 kt : Tok} {ks : Str} {items sh lo : Value} {n1 : Nat} {da : Addr} {o : Obj} {kvs : List (Str × Value)} {xd dd ld : Addr} {u1 u2 u3 u4 u5 : Tok} {dkind datt dsh dlo : Value} {dn1 nl : Nat} {us : List Value} (h1 : (ks == Str.ofString "language") = false) (h2 : (ks == Str.ofString "environment") = false) (hD : o.IsDictOf (strKind PySem.Challenge.rw_pq1344_01.row.prog w) kvs) (hlo : (da == sysModules) = false) (hv1 : valueAt kvs (Str.ofString "dim") = none) (hv2 : valueAt kvs (Str.ofString "names") = some (.ref xd)) (hlen : us.length ≤ 600) :
    Tells w 3 221 [.ref x] [(x, instObj 113 d), (d, dictOf (vd w.params t1 t2 t3 t4 t5 (.str ks kt) items (.ref da) sh lo) n1), (da, o), (xd, instObj 113 dd), (dd, dictOf (vd w.params u1 u2 u3 u4 u5 dkind (.ref ld) datt dsh dlo) dn1), (ld, listOf us.toArray nl)] [] (Gives [(x, instObj 113 d), (d, dictOf (vd w.params t1 t2 t3 t4 t5 (.str ks kt) items (.ref da) sh lo) n1), (da, o), (xd, instObj 113 dd), (dd, dictOf (vd w.params u1 u2 u3 u4 u5 dkind (.ref ld) datt dsh dlo) dn1), (ld, listOf us.toArray nl)] fun P => ∀ l n, P (.ref l) [(l, listOf us.toArray n)]) := by
  refine wo ?_
  simp (disch :=
  k_dflt (
  refine wk ?_
  refine' tells_plainP (binds := [(Str.ofString "v", .ref x)]) ?k1 ?k2 ?k3 ?k4 ?k5 ?k6 ?k7 ?k8 ?k9 ?_
  case k1 => k_is
  case k2 => k_is
  case k3 => exact fun s => BindsTo.of_eq rfl
  case k4 => exact locs rfl
  case k5 => decide
  case k6 => rfl
  case k7 => rfl
  case k8 => rfl
  case k9 => decide
  intro p loose mean mg mb dp un gd cn cs L a ccd cl outer base g L' s Pq B F K N T hdp hun hPq e9 A9
  (try dsimp only)
  repeat' (k_extra "S0"; k_extra "S1")
  ((try dsimp only); refine' post_of [(_, _)] _ rfl ?F ?N ?h1 ?h2 ?h3; (case F => k_asm); (case N => k_asm); (case h1 => k_extra "SUB"); (case h2 => k_extra "KEEP"); (case h3 => exact ⟨⟨AllNe.of (by k_extra "ALN"), True.intro⟩, fun P hP => hP _ _⟩))
  )) only [↓wt]
end
section
open PySem PySem.W PyProof.Rows PySem.Calls
set_option Elab.async false
set_option maxRecDepth 100000 
set_option maxHeartbeats 8000000 
theorem kwC3_0 : True := by
  k_with_none
  k_with "MEM" => first | (with_reducible exact List.mem_cons_self) | ((with_reducible refine List.mem_cons_of_mem _ ?_); k_extra "MEM")
  k_with "ENTER" => (refine' code_defP ?zqk1 ?zqk2 ?zqk3 ?zqk4 ?zqk5 ?zqkA ?zqkF ?zqkK ?zqk6 ?zqk7 ?zqk8 ?zqk9 ?zqkB ?_ ?zqc2 ?zqc3 ?zqc4 ?zqc5; (case zqkA => exact rfl); (case zqkF => exact rfl); (case zqkK => exact rfl); (case zqk1 => k_asm); (case zqk2 => k_asm); (case zqk3 => k_asm); (case zqk4 => k_asm); (case zqk5 => k_asm); (case zqk6 => k_is); (case zqk7 => k_is); (case zqk8 => k_room); (case zqk9 => first | exact BindsTo.of_eq rfl | exact binds_K (by k_in) rfl (by k_is) rfl rfl rfl); (case zqc5 => decide); (case zqkB => exact locs rfl); (case zqc2 => exact rfl); (case zqc3 => exact rfl); (case zqc4 => exact rfl); k_whole; intro g' L' h' Q' FG' F' N' B' X' T' hQ' e9 A9; (try dsimp only); (try k_lift B'); (try k_fold))
  k_with "S0" => ((fail_if_success (with_reducible show Post _ _ _ _ _ _ _ _)); (fail_if_success (with_reducible show LoopP _ _ _ _ _ _ _ _)); (fail_if_success (with_reducible show CmpP _ _ _ _ _ _ _ _ _ _ _ _ _ _ _)))
  k_with "S1" => first | (k_unfold; (try dsimp only)) | (k_end; wrow_close) | walk1 | (with_reducible refine hand (by assumption) ?_; try dsimp only) | (dsimp only; walk1) | (leave1; try dsimp only)
  k_with "ROOM" => first | (refine' room0 ?zqh ?zqe; (case zqh => assumption); (case zqe => exact rfl)) | (refine' room1 ?zqh ?zqe; (case zqh => assumption); (case zqe => exact rfl)) | (refine' room2 ?zqh ?zqe; (case zqh => assumption); (case zqe => exact rfl)) | (refine' room3 ?zqh ?zqe; (case zqh => assumption); (case zqe => exact rfl)) | (refine' roomz ?zqh; (case zqh => assumption)) | ktr_room
  k_with "UNITS" => first | (refine' room0 ?zqh ?zqe; (case zqh => assumption); (case zqe => exact rfl)) | (refine' room1 ?zqh ?zqe; (case zqh => assumption); (case zqe => exact rfl)) | (refine' room2 ?zqh ?zqe; (case zqh => assumption); (case zqe => exact rfl)) | (refine' room3 ?zqh ?zqe; (case zqh => assumption); (case zqe => exact rfl)) | exact lt_num rfl | ktr_units
  k_with "AR" => first | assumption | exact Nat.le_max_right _ _ | exact Nat.le_max_left _ _ | exact Nat.max_lt.mpr ⟨by assumption, by assumption⟩ | (refine' le_up ?zqh ?zqe; (case zqh => assumption); (case zqe => exact rfl)) | omega
  k_with "SUT" => first | exact sub_self | (refine sub_skip ?_; k_extra "SUT")
  k_with "SUB" => first | exact sub_nil | ((with_reducible refine' sub_cons ?zqsm ?_); (case zqsm => k_mem); k_extra "SUB") | k_extra "SUT"
  k_with "SUK" => first | exact sub_nil | k_extra "SUT" | k_extra "SUB"
  k_with "KEEP" => first | (refine keep_hd (List.Mem.head _) ?_; k_extra "KEEP") | exact keep_of (by k_extra "SUK") | ((with_reducible refine' keep_cons ?zqkm ?_); (case zqkm => k_mem); k_extra "KEEP")
  k_with "APQ" => (rename Apart _ _ => h9; first | exact Apart.at h9 (by k_extra "MEM") (by k_extra "MEM") | exact ap_at h9 (by k_extra "MEM") (by k_extra "MEM") | (clear h9; k_extra "APQ"))
  k_with "ANQ" => (rename AllNe _ _ => h9; first | exact AllNe.at h9 (by k_extra "MEM") | exact an_at h9 (by k_extra "MEM") | (clear h9; k_extra "ANQ"))
  k_with "ALQ" => (rename AllLt _ _ => h9; first | exact lt_ne h9 (by k_extra "MEM") | exact lt_en h9 (by k_extra "MEM") | exact lt_ne2 h9 (by assumption) (by k_extra "MEM") | exact lt_en2 h9 (by assumption) (by k_extra "MEM") | (clear h9; k_extra "ALQ"))
  k_with "NEQ" => first | assumption | exact Ne.symm (by assumption) | exact Nat.ne_of_lt (by assumption) | exact Nat.ne_of_gt (by assumption) | k_extra "ALQ" | k_extra "ANQ" | k_extra "APQ" | omega
  k_with "APS" => (rename Apart _ _ => h9; first | exact Apart.subA h9 rfl (by k_extra "SUK") | (clear h9; k_extra "APS"))
  k_with "NE1" => (refine neN ?_; (try dsimp only); k_extra "NEQ")
  k_with "ALL" => first | exact all_nil | (rename AllLt _ _ => h9; exact lt_sub h9 (by k_extra "SUT")) | (refine' all_cons ?zqa ?zqb; (case zqa => k_ne); (case zqb => k_all))
  k_with "ALN" => first | exact ne_nil | (refine ne_cons ?_ ?_; (focus ((try dsimp only); k_extra "NEQ")); k_extra "ALN")
  k_with "APM" => first | exact ap_nil | k_extra "APS" | (refine ap_cons ?_ ?_; (focus k_extra "ALN"); k_extra "APM")
  k_with "CA" => ((case zqkB => k_asm); (case zqkF => k_asm); (case zqkX => k_asm); (case zqkN => k_asm))
  k_with "CB" => ((case zqkT => k_asm); (case zqkK => first | exact rfl | assumption); (case zqkd => k_extra "ROOM"); (case zqku => k_extra "UNITS"))
  k_with "CE" => all_goals ((try ((with_reducible rename News _ _ _ _ => h9); simp only [List.nil_append, List.cons_append] at h9)); (try ((with_reducible rename Apart [] _ => h7); clear h7)); (try dsimp only [Option.getD_some, Option.getD_none]); (try k_sweep); (try k_fold))
  k_with "CZ" => all_goals ((try dsimp only [Option.getD_some, Option.getD_none]); (try k_sweep); (try k_fold))
  k_with "call builtin:len" => (k_here; (with_reducible show wpAny _ _ (call (Value.builtin "len") [Value.ref _]) _ _ _); k_dflt (refine' len_sym ?zqk1 ?zqk2 ?zqk3 ?_; (case zqk1 => k_asm); (case zqk2 => k_mem); (case zqk3 => k_extra "AR"); k_whole))
  k_with "getMethod ref" => (k_here; (with_reducible show wpAny _ _ (getMethod (Value.ref _) (PySem.Str.ofString "get") _) _ _ _); k_dflt (refine' get_method ?zqk1 ?zqk2 ?zqk3 ?_; (case zqk1 => k_asm); (case zqk2 => k_mem); (case zqk3 => with_reducible assumption); k_whole))
  k_with "call builtin:dict.get" => (k_here; (with_reducible show wpAny _ _ (call (Value.builtin "dict.get") [Value.ref _, Value.str _ _]) _ _ _); k_dflt (refine' get_call ?zqk0 ?zqk1 ?zqk2 ?zqk3 ?_; (case zqk1 => k_asm); (case zqk2 => k_mem); (case zqk3 => with_reducible assumption); (case zqk0 => with_reducible assumption); k_whole))
  k_with "LOCA" => first | exact LocArgs.nil | (refine' LocArgs.cons ?zqlk ?zqld ?zqlv ?zqlt; (case zqlk => kernel_rfl!); (case zqld => kernel_rfl); (case zqlv => first | rfl | assumption); (case zqlt => k_extra "LOCA"))
  k_with "eval Call" => (k_here; (with_reducible show wpAny _ _ (eval (Expr.Call (Expr.Name _ _) (Expr.Name _ _ :: _) [] _) _) _ _ _); first | ((with_reducible refine' callO_loc ?zqF ?zqX ?zqT ?zqe ?zqk ?zqa ?zqb ?zqc ?zql ?_); k_dflt ((case zqF => k_asm); (case zqX => k_asm); (case zqT => k_asm); (case zqa => exact rfl); (case zqb => kernel_rfl!); (case zqc => kernel_rfl); (case zqe => k_is); (case zqk => k_is); (case zql => k_extra "LOCA"); k_whole)) | ((with_reducible refine' callC_loc ?zqF ?zqX ?zqT ?zqe ?zqk ?zqa ?zqb ?zqc ?zql ?_); k_dflt ((case zqF => k_asm); (case zqX => k_asm); (case zqT => k_asm); (case zqa => exact rfl); (case zqb => kernel_rfl!); (case zqc => kernel_rfl); (case zqe => k_is); (case zqk => k_is); (case zql => k_extra "LOCA"); k_whole)))
  k_with "eval Attribute Name" => (k_here; (with_reducible refine' attrO_loc ?zqF ?zqv ?zqa ?zqb ?zqc ?_); k_dflt ((case zqF => k_asm); (case zqa => exact rfl); (case zqb => kernel_rfl!); (case zqc => kernel_rfl); (case zqv => first | rfl | assumption); k_whole))
  k_with "ite" => (k_here; first | (k_closed; first | ((with_reducible refine ite_pos ?zqk2 ?_); k_dflt (case zqk2 => decide)) | ((with_reducible refine ite_neg ?zqk2 ?_); k_dflt (case zqk2 => decide))) | (refine' ite_bf ?zqk1 ?_; (case zqk1 => first | assumption | exact decide_eq_false (by omega) | exact beq_eq_false_iff_ne.mpr (by omega))) | (refine' ite_bt ?zqk1 ?_; (case zqk1 => first | assumption | exact decide_eq_true (by omega) | exact beq_iff_eq.mpr (by omega))))
  k_with "call type:dict" => (k_here; (with_reducible show wpAny _ _ (call (Value.type "dict") [Value.ref _]) _ _ _); k_dflt (refine' dict_copyK ?zqF ?zqN ?zqb ?zqm ?zqD ?zql ?zqz ?_; (case zqF => k_asm); (case zqN => k_asm); (case zqb => exact Top.nolimit (by k_asm)); (case zqm => k_mem); (case zqD => with_reducible assumption); (case zql => with_reducible assumption); (case zqz => omega); k_whole); intro d' h' o' F' N' l1 lo' hd'; (try k_lt l1))
  k_with "OWN" => (intro p9 hp9; repeat' (first | exact hp9 | refine List.mem_append.mpr (Or.inr ?_) | refine List.mem_cons_of_mem _ ?_))
  k_with "eval Name" => (k_here; first | ((with_reducible refine' nameO_L ?zqF ?zqv ?_ ?zqa ?zqb ?zqc); k_dflt ((case zqF => k_asm); (case zqa => exact rfl); (case zqb => kernel_rfl!); (case zqc => kernel_rfl); (case zqv => first | rfl | assumption); k_whole)) | ((with_reducible refine' nameO_K ?zqF ?zqX ?zqT ?zqe ?_ ?zqa ?zqb ?zqc); k_dflt ((case zqF => k_asm); (case zqX => k_asm); (case zqT => k_asm); (case zqa => exact rfl); (case zqb => kernel_rfl!); (case zqc => kernel_rfl); (case zqe => k_is); k_whole)) | ((with_reducible refine' nameC_L ?zqF ?zqv ?_ ?zqa ?zqb ?zqc); k_dflt ((case zqF => k_asm); (case zqa => exact rfl); (case zqb => kernel_rfl!); (case zqc => kernel_rfl); (case zqv => first | rfl | assumption); k_whole)) | ((with_reducible refine' nameC_K ?zqF ?zqX ?zqT ?zqe ?_ ?zqa ?zqb ?zqc); k_dflt ((case zqF => k_asm); (case zqX => k_asm); (case zqT => k_asm); (case zqa => exact rfl); (case zqb => kernel_rfl!); (case zqc => kernel_rfl); (case zqe => k_is); k_whole)))
  trivial
theorem kwC3_1 : True := by
  k_with "getMethod ref" => (k_here; (with_reducible show wpAny _ _ (getMethod (Value.ref _) (PySem.Str.ofString "index") _) _ _ _); k_dflt (refine' tup_method ?zqk1 ?zqk2 ?_; (case zqk1 => k_asm); (case zqk2 => k_mem); k_whole))
  k_with "call builtin:tuple.index" => (k_here; k_dflt (refine' tup_index_K ?zqk1 ?zqk2 ?zqk3 ?_; (case zqk1 => k_asm); (case zqk2 => k_mem); (case zqk3 => exact rfl); k_whole))
  trivial
theorem order_tells {w : World} {i : Nat} {t : Tok} (hi : i < 3) :
    Tells w 1 431 [.str (kS i) t] [] [] (Gives0 fun P => ∀ t', P (.int (([1, 2, 4] : List Int).getD i 0) t')) := by
  refine wo ?_
  simp (disch :=
  k_dflt (
  refine wk ?_
  rcases three hi with rfl | rfl | rfl
  all_goals dsimp only [kS]
  · refine' tells_plainP (binds := [(Str.ofString "kind", .str (Str.ofString "logical") t)]) ?k1 ?k2 ?k3 ?k4 ?k5 ?k6 ?k7 ?k8 ?k9 ?_
    case k1 => k_is
    case k2 => k_is
    case k3 => exact fun s => BindsTo.of_eq rfl
    case k4 => exact locs rfl
    case k5 => decide
    case k6 => rfl
    case k7 => rfl
    case k8 => rfl
    case k9 => decide
    intro p loose mean mg mb dp un gd cn cs L a ccd cl outer base g L' s Pq B F K N T hdp hun hPq e9 A9
    (try dsimp only)
    repeat' (k_extra "S0"; k_extra "S1")
    ((try dsimp only); refine' post_of [] _ rfl ?F ?N ?h1 ?h2 ?h3; (case F => k_asm); (case N => k_asm); (case h1 => k_extra "SUB"); (case h2 => k_extra "KEEP"); (case h3 => exact gives0 fun P hP => hP _))
  · refine' tells_plainP (binds := [(Str.ofString "kind", .str (Str.ofString "integer") t)]) ?k1 ?k2 ?k3 ?k4 ?k5 ?k6 ?k7 ?k8 ?k9 ?_
    case k1 => k_is
    case k2 => k_is
    case k3 => exact fun s => BindsTo.of_eq rfl
    case k4 => exact locs rfl
    case k5 => decide
    case k6 => rfl
    case k7 => rfl
    case k8 => rfl
    case k9 => decide
    intro p loose mean mg mb dp un gd cn cs L a ccd cl outer base g L' s Pq B F K N T hdp hun hPq e9 A9
    (try dsimp only)
    repeat' (k_extra "S0"; k_extra "S1")
    ((try dsimp only); refine' post_of [] _ rfl ?F ?N ?h1 ?h2 ?h3; (case F => k_asm); (case N => k_asm); (case h1 => k_extra "SUB"); (case h2 => k_extra "KEEP"); (case h3 => exact gives0 fun P hP => hP _))
  · refine' tells_plainP (binds := [(Str.ofString "kind", .str (Str.ofString "character") t)]) ?k1 ?k2 ?k3 ?k4 ?k5 ?k6 ?k7 ?k8 ?k9 ?_
    case k1 => k_is
    case k2 => k_is
    case k3 => exact fun s => BindsTo.of_eq rfl
    case k4 => exact locs rfl
    case k5 => decide
    case k6 => rfl
    case k7 => rfl
    case k8 => rfl
    case k9 => decide
    intro p loose mean mg mb dp un gd cn cs L a ccd cl outer base g L' s Pq B F K N T hdp hun hPq e9 A9
    (try dsimp only)
    repeat' (k_extra "S0"; k_extra "S1")
    ((try dsimp only); refine' post_of [] _ rfl ?F ?N ?h1 ?h2 ?h3; (case F => k_asm); (case N => k_asm); (case h1 => k_extra "SUB"); (case h2 => k_extra "KEEP"); (case h3 => exact gives0 fun P hP => hP _))
  )) only [↓wt]
theorem kwC3_2 : True := by
  k_with "call ref" => (k_here; (with_reducible show wpAny _ _ (call (Value.ref 431) _) _ _ _); k_dflt (refine' tells_call0 (order_tells ?zqhi) ?zqkB ?zqkF ?zqkX ?zqkN ?zqkS ?zqkT ?zqkK ?zqkd ?zqku ?_; k_extra "CA"; (case zqkS => k_extra "SUK"); (case zqhi => assumption); k_extra "CB"; k_whole; intro t9Z h' tk' F' N'; k_extra "CZ"))
  k_with "call ref" => (k_here; (with_reducible show wpAny _ _ (call (Value.ref 662) _) _ _ _); k_dflt (refine' tells_call0 (result_tells ?zqhi) ?zqkB ?zqkF ?zqkX ?zqkN ?zqkS ?zqkT ?zqkK ?zqkd ?zqku ?_; k_extra "CA"; (case zqkS => k_extra "SUK"); (case zqhi => assumption); k_extra "CB"; k_whole; intro  h' tk' F' N'; k_extra "CZ"))
  trivial
theorem kinds_max7 {i j : Nat} {a b c d e f g : Tok} (hi : i < 3) (hj : j < 3) : ∃ q t, -(2 ^ 63) ≤ (if ([1, 2, 4] : List Int).getD j 0 > (if ([1, 2, 4] : List Int).getD i 0 > 0 then ([1, 2, 4] : List Int).getD i 0 else 0) then ([1, 2, 4] : List Int).getD j 0 else (if ([1, 2, 4] : List Int).getD i 0 > 0 then ([1, 2, 4] : List Int).getD i 0 else 0)) ∧ (if ([1, 2, 4] : List Int).getD j 0 > (if ([1, 2, 4] : List Int).getD i 0 > 0 then ([1, 2, 4] : List Int).getD i 0 else 0) then ([1, 2, 4] : List Int).getD j 0 else (if ([1, 2, 4] : List Int).getD i 0 > 0 then ([1, 2, 4] : List Int).getD i 0 else 0)) < 2 ^ 63 ∧ seqIndex? (if ([1, 2, 4] : List Int).getD j 0 > (if ([1, 2, 4] : List Int).getD i 0 > 0 then ([1, 2, 4] : List Int).getD i 0 else 0) then ([1, 2, 4] : List Int).getD j 0 else (if ([1, 2, 4] : List Int).getD i 0 > 0 then ([1, 2, 4] : List Int).getD i 0 else 0)) [Value.str (Str.ofString "NULL") a, Value.str (Str.ofString "logical") b, Value.str (Str.ofString "integer") c, Value.str (Str.ofString "double") d, Value.str (Str.ofString "character") e, Value.str (Str.ofString "list") f, Value.str (Str.ofString "expression") g].length = some q ∧ [Value.str (Str.ofString "NULL") a, Value.str (Str.ofString "logical") b, Value.str (Str.ofString "integer") c, Value.str (Str.ofString "double") d, Value.str (Str.ofString "character") e, Value.str (Str.ofString "list") f, Value.str (Str.ofString "expression") g][q]? = some (.str (kS (max i j)) t) := by
  rcases three hi with rfl | rfl | rfl <;> rcases three hj with rfl | rfl | rfl <;> exact ⟨_, _, by decide, by decide, rfl, rfl⟩
theorem assigned_tells {w : World} {x d x2 d2 : Addr} {t1 t2 t3 t4 t5 kt u1 u2 u3 u4 u5 kt2 : Tok} {i j : Nat} {items sh lo at1 items2 sh2 lo2 at2 : Value} {n1 n2 : Nat} (hi : i < 3) (hj : j < 3) :
    Tells w 4 704 [.ref x, .ref x2] [(x, instObj 113 d), (d, dictOf (vd w.params t1 t2 t3 t4 t5 (.str (kS i) kt) items at1 sh lo) n1), (x2, instObj 113 d2), (d2, dictOf (vd w.params u1 u2 u3 u4 u5 (.str (kS j) kt2) items2 at2 sh2 lo2) n2)] []
      (Gives0 fun P => ∀ t', P (.str (kS (max i j)) t')) := by
  refine wo ?_
  simp (disch :=
  k_dflt (
  refine wk ?_
  have hp1 := (kS_no hi).1
  have hp2 := (kS_no hj).1
  refine' tells_plainP (binds := [(Str.ofString "v", .ref x), (Str.ofString "value", .ref x2)]) ?k1 ?k2 ?k3 ?k4 ?k5 ?k6 ?k7 ?k8 ?k9 ?_
  case k1 => k_is
  case k2 => k_is
  case k3 => exact fun s => BindsTo.of_eq rfl
  case k4 => exact locs rfl
  case k5 => decide
  case k6 => rfl
  case k7 => rfl
  case k8 => rfl
  case k9 => decide
  intro p loose mean mg mb dp un gd cn cs L a ccd cl outer base g L' s Pq B F K N T hdp hun hPq e9 A9
  (try dsimp only)
  repeat' ((fail_if_success (with_reducible show wpAny _ _ (subscriptTail _ _ _ _) _ _ _)); k_extra "S0"; k_extra "S1")
  refine' tup_item (y := kS (max i j)) ?k1 ?k2 ?k3 ?_
  case k1 => k_asm
  case k2 => k_mem
  case k3 => exact kinds_max7 hi hj
  intro t'
  repeat' (k_extra "S0"; k_extra "S1")
  ((try dsimp only); refine' post_of [] _ rfl ?F ?N ?h1 ?h2 ?h3; (case F => k_asm); (case N => k_asm); (case h1 => k_extra "SUB"); (case h2 => k_extra "KEEP"); (case h3 => exact gives0 fun P hP => hP _))
  )) only [↓wt]
end
section
open PySem PySem.W PyProof.Rows PySem.Calls
set_option Elab.async false
set_option maxRecDepth 100000 
set_option maxHeartbeats 8000000 
theorem kwC4_0 : True := by
  k_with_none
  k_with "MEM" => first | (with_reducible exact List.mem_cons_self) | ((with_reducible refine List.mem_cons_of_mem _ ?_); k_extra "MEM")
  k_with "ENTER" => (refine' code_defP ?zqk1 ?zqk2 ?zqk3 ?zqk4 ?zqk5 ?zqkA ?zqkF ?zqkK ?zqk6 ?zqk7 ?zqk8 ?zqk9 ?zqkB ?_ ?zqc2 ?zqc3 ?zqc4 ?zqc5; (case zqkA => exact rfl); (case zqkF => exact rfl); (case zqkK => exact rfl); (case zqk1 => k_asm); (case zqk2 => k_asm); (case zqk3 => k_asm); (case zqk4 => k_asm); (case zqk5 => k_asm); (case zqk6 => k_is); (case zqk7 => k_is); (case zqk8 => k_room); (case zqk9 => first | exact BindsTo.of_eq rfl | exact binds_K (by k_in) rfl (by k_is) rfl rfl rfl); (case zqc5 => decide); (case zqkB => exact locs rfl); (case zqc2 => exact rfl); (case zqc3 => exact rfl); (case zqc4 => exact rfl); k_whole; intro g' L' h' Q' FG' F' N' B' X' T' hQ' e9 A9; (try dsimp only); (try k_lift B'); (try k_fold))
  k_with "S0" => ((fail_if_success (with_reducible show Post _ _ _ _ _ _ _ _)); (fail_if_success (with_reducible show LoopP _ _ _ _ _ _ _ _)); (fail_if_success (with_reducible show CmpP _ _ _ _ _ _ _ _ _ _ _ _ _ _ _)))
  k_with "S1" => first | (k_unfold; (try dsimp only)) | (k_end; wrow_close) | walk1 | (with_reducible refine hand (by assumption) ?_; try dsimp only) | (dsimp only; walk1) | (leave1; try dsimp only)
  k_with "ROOM" => first | (refine' room0 ?zqh ?zqe; (case zqh => assumption); (case zqe => exact rfl)) | (refine' room1 ?zqh ?zqe; (case zqh => assumption); (case zqe => exact rfl)) | (refine' room2 ?zqh ?zqe; (case zqh => assumption); (case zqe => exact rfl)) | (refine' room3 ?zqh ?zqe; (case zqh => assumption); (case zqe => exact rfl)) | (refine' roomz ?zqh; (case zqh => assumption)) | ktr_room
  k_with "UNITS" => first | (refine' room0 ?zqh ?zqe; (case zqh => assumption); (case zqe => exact rfl)) | (refine' room1 ?zqh ?zqe; (case zqh => assumption); (case zqe => exact rfl)) | (refine' room2 ?zqh ?zqe; (case zqh => assumption); (case zqe => exact rfl)) | (refine' room3 ?zqh ?zqe; (case zqh => assumption); (case zqe => exact rfl)) | exact lt_num rfl | ktr_units
  k_with "AR" => first | assumption | exact Nat.le_max_right _ _ | exact Nat.le_max_left _ _ | exact Nat.max_lt.mpr ⟨by assumption, by assumption⟩ | (refine' le_up ?zqh ?zqe; (case zqh => assumption); (case zqe => exact rfl)) | omega
  k_with "SUT" => first | exact sub_self | (refine sub_skip ?_; k_extra "SUT")
  k_with "SUB" => first | exact sub_nil | ((with_reducible refine' sub_cons ?zqsm ?_); (case zqsm => k_mem); k_extra "SUB") | k_extra "SUT"
  k_with "SUK" => first | exact sub_nil | k_extra "SUT" | k_extra "SUB"
  k_with "KEEP" => first | (refine keep_hd (List.Mem.head _) ?_; k_extra "KEEP") | exact keep_of (by k_extra "SUK") | ((with_reducible refine' keep_cons ?zqkm ?_); (case zqkm => k_mem); k_extra "KEEP")
  k_with "APQ" => (rename Apart _ _ => h9; first | exact Apart.at h9 (by k_extra "MEM") (by k_extra "MEM") | exact ap_at h9 (by k_extra "MEM") (by k_extra "MEM") | (clear h9; k_extra "APQ"))
  k_with "ANQ" => (rename AllNe _ _ => h9; first | exact AllNe.at h9 (by k_extra "MEM") | exact an_at h9 (by k_extra "MEM") | (clear h9; k_extra "ANQ"))
  k_with "ALQ" => (rename AllLt _ _ => h9; first | exact lt_ne h9 (by k_extra "MEM") | exact lt_en h9 (by k_extra "MEM") | exact lt_ne2 h9 (by assumption) (by k_extra "MEM") | exact lt_en2 h9 (by assumption) (by k_extra "MEM") | (clear h9; k_extra "ALQ"))
  k_with "NEQ" => first | assumption | exact Ne.symm (by assumption) | exact Nat.ne_of_lt (by assumption) | exact Nat.ne_of_gt (by assumption) | k_extra "ALQ" | k_extra "ANQ" | k_extra "APQ" | omega
  k_with "APS" => (rename Apart _ _ => h9; first | exact Apart.subA h9 rfl (by k_extra "SUK") | (clear h9; k_extra "APS"))
  k_with "NE1" => (refine neN ?_; (try dsimp only); k_extra "NEQ")
  k_with "ALL" => first | exact all_nil | (rename AllLt _ _ => h9; exact lt_sub h9 (by k_extra "SUT")) | (refine' all_cons ?zqa ?zqb; (case zqa => k_ne); (case zqb => k_all))
  k_with "ALN" => first | exact ne_nil | (refine ne_cons ?_ ?_; (focus ((try dsimp only); k_extra "NEQ")); k_extra "ALN")
  k_with "APM" => first | exact ap_nil | k_extra "APS" | (refine ap_cons ?_ ?_; (focus k_extra "ALN"); k_extra "APM")
  k_with "CA" => ((case zqkB => k_asm); (case zqkF => k_asm); (case zqkX => k_asm); (case zqkN => k_asm))
  k_with "CB" => ((case zqkT => k_asm); (case zqkK => first | exact rfl | assumption); (case zqkd => k_extra "ROOM"); (case zqku => k_extra "UNITS"))
  k_with "CE" => all_goals ((try ((with_reducible rename News _ _ _ _ => h9); simp only [List.nil_append, List.cons_append] at h9)); (try ((with_reducible rename Apart [] _ => h7); clear h7)); (try dsimp only [Option.getD_some, Option.getD_none]); (try k_sweep); (try k_fold))
  k_with "CZ" => all_goals ((try dsimp only [Option.getD_some, Option.getD_none]); (try k_sweep); (try k_fold))
  k_with "call builtin:len" => (k_here; (with_reducible show wpAny _ _ (call (Value.builtin "len") [Value.ref _]) _ _ _); k_dflt (refine' len_sym ?zqk1 ?zqk2 ?zqk3 ?_; (case zqk1 => k_asm); (case zqk2 => k_mem); (case zqk3 => k_extra "AR"); k_whole))
  k_with "getMethod ref" => (k_here; (with_reducible show wpAny _ _ (getMethod (Value.ref _) (PySem.Str.ofString "get") _) _ _ _); k_dflt (refine' get_method ?zqk1 ?zqk2 ?zqk3 ?_; (case zqk1 => k_asm); (case zqk2 => k_mem); (case zqk3 => with_reducible assumption); k_whole))
  k_with "call builtin:dict.get" => (k_here; (with_reducible show wpAny _ _ (call (Value.builtin "dict.get") [Value.ref _, Value.str _ _]) _ _ _); k_dflt (refine' get_call ?zqk0 ?zqk1 ?zqk2 ?zqk3 ?_; (case zqk1 => k_asm); (case zqk2 => k_mem); (case zqk3 => with_reducible assumption); (case zqk0 => with_reducible assumption); k_whole))
  k_with "LOCA" => first | exact LocArgs.nil | (refine' LocArgs.cons ?zqlk ?zqld ?zqlv ?zqlt; (case zqlk => kernel_rfl!); (case zqld => kernel_rfl); (case zqlv => first | rfl | assumption); (case zqlt => k_extra "LOCA"))
  k_with "eval Call" => (k_here; (with_reducible show wpAny _ _ (eval (Expr.Call (Expr.Name _ _) (Expr.Name _ _ :: _) [] _) _) _ _ _); first | ((with_reducible refine' callO_loc ?zqF ?zqX ?zqT ?zqe ?zqk ?zqa ?zqb ?zqc ?zql ?_); k_dflt ((case zqF => k_asm); (case zqX => k_asm); (case zqT => k_asm); (case zqa => exact rfl); (case zqb => kernel_rfl!); (case zqc => kernel_rfl); (case zqe => k_is); (case zqk => k_is); (case zql => k_extra "LOCA"); k_whole)) | ((with_reducible refine' callC_loc ?zqF ?zqX ?zqT ?zqe ?zqk ?zqa ?zqb ?zqc ?zql ?_); k_dflt ((case zqF => k_asm); (case zqX => k_asm); (case zqT => k_asm); (case zqa => exact rfl); (case zqb => kernel_rfl!); (case zqc => kernel_rfl); (case zqe => k_is); (case zqk => k_is); (case zql => k_extra "LOCA"); k_whole)))
  k_with "eval Attribute Name" => (k_here; (with_reducible refine' attrO_loc ?zqF ?zqv ?zqa ?zqb ?zqc ?_); k_dflt ((case zqF => k_asm); (case zqa => exact rfl); (case zqb => kernel_rfl!); (case zqc => kernel_rfl); (case zqv => first | rfl | assumption); k_whole))
  k_with "ite" => (k_here; first | (k_closed; first | ((with_reducible refine ite_pos ?zqk2 ?_); k_dflt (case zqk2 => decide)) | ((with_reducible refine ite_neg ?zqk2 ?_); k_dflt (case zqk2 => decide))) | (refine' ite_bf ?zqk1 ?_; (case zqk1 => first | assumption | exact decide_eq_false (by omega) | exact beq_eq_false_iff_ne.mpr (by omega))) | (refine' ite_bt ?zqk1 ?_; (case zqk1 => first | assumption | exact decide_eq_true (by omega) | exact beq_iff_eq.mpr (by omega))))
  k_with "call type:dict" => (k_here; (with_reducible show wpAny _ _ (call (Value.type "dict") [Value.ref _]) _ _ _); k_dflt (refine' dict_copyK ?zqF ?zqN ?zqb ?zqm ?zqD ?zql ?zqz ?_; (case zqF => k_asm); (case zqN => k_asm); (case zqb => exact Top.nolimit (by k_asm)); (case zqm => k_mem); (case zqD => with_reducible assumption); (case zql => with_reducible assumption); (case zqz => omega); k_whole); intro d' h' o' F' N' l1 lo' hd'; (try k_lt l1))
  k_with "OWN" => (intro p9 hp9; repeat' (first | exact hp9 | refine List.mem_append.mpr (Or.inr ?_) | refine List.mem_cons_of_mem _ ?_))
  k_with "eval Name" => (k_here; first | ((with_reducible refine' nameO_L ?zqF ?zqv ?_ ?zqa ?zqb ?zqc); k_dflt ((case zqF => k_asm); (case zqa => exact rfl); (case zqb => kernel_rfl!); (case zqc => kernel_rfl); (case zqv => first | rfl | assumption); k_whole)) | ((with_reducible refine' nameO_K ?zqF ?zqX ?zqT ?zqe ?_ ?zqa ?zqb ?zqc); k_dflt ((case zqF => k_asm); (case zqX => k_asm); (case zqT => k_asm); (case zqa => exact rfl); (case zqb => kernel_rfl!); (case zqc => kernel_rfl); (case zqe => k_is); k_whole)) | ((with_reducible refine' nameC_L ?zqF ?zqv ?_ ?zqa ?zqb ?zqc); k_dflt ((case zqF => k_asm); (case zqa => exact rfl); (case zqb => kernel_rfl!); (case zqc => kernel_rfl); (case zqv => first | rfl | assumption); k_whole)) | ((with_reducible refine' nameC_K ?zqF ?zqX ?zqT ?zqe ?_ ?zqa ?zqb ?zqc); k_dflt ((case zqF => k_asm); (case zqX => k_asm); (case zqT => k_asm); (case zqa => exact rfl); (case zqb => kernel_rfl!); (case zqc => kernel_rfl); (case zqe => k_is); k_whole)))
  trivial
theorem first_tells {w : World} {l : Addr} {us : List Value} {n nl : Nat} (hI : IntsAre us (rangeKs 0 n)) (hn : n ≤ 1000) :
    Tells w 1 732 [.ref l] [(l, listOf us.toArray nl)] [] (Gives0 fun P => ∀ t, P (.int (n : Nat) t)) := by
  refine wo ?_
  simp (disch :=
  k_dflt (
  refine wk ?_
  have hl : us.length = n := by rw [hI.length, rangeKs_length]
  refine' tells_plainP (binds := [(Str.ofString "places", .ref l)]) ?k1 ?k2 ?k3 ?k4 ?k5 ?k6 ?k7 ?k8 ?k9 ?_
  case k1 => k_is
  case k2 => k_is
  case k3 => exact fun s => BindsTo.of_eq rfl
  case k4 => exact locs rfl
  case k5 => decide
  case k6 => rfl
  case k7 => rfl
  case k8 => rfl
  case k9 => decide
  intro p loose mean mg mb dp un gd cn cs L a ccd cl outer base g L' s Pq B F K N T hdp hun hPq e9 A9
  (try dsimp only)
  repeat' ((fail_if_success (with_reducible show wpAny _ _ (pyIter (Value.ref _)) _ _ _)); k_extra "S0"; k_extra "S1")
  refine' loop_list [(l, listOf us.toArray nl)] (fun i m nx => (∃ t, m (Str.ofString "count") = some (.int (i : Nat) t)) ∧ nx = [(l, listOf us.toArray nl)]) ?hh ?hJ ?F ?N ?s ?j ?turn ?done
  case hh => rfl
  case hJ => rintro i m nx ⟨_, rfl⟩; exact .head _
  case F => k_asm
  case N => k_asm
  case s => k_extra "SUB"
  case j => exact ⟨⟨_, rfl⟩, rfl⟩
  case turn =>
    intro i v m₁ nx h tk own hv ho hJ F₁ N₁
    obtain ⟨⟨t', hc⟩, rfl⟩ := hJ
    have hi : i < n := by rw [← hl]; exact (List.getElem?_eq_some_iff.mp hv).1
    obtain ⟨t, e⟩ := ints_range hI (j := i) (by rw [rangeKs_length]; exact hi)
    rw [hv, rangeKs_at hi] at e
    cases e
    (try dsimp only)
    repeat' (k_extra "S0"; k_extra "S1")
    ((try dsimp only); refine' loopP_next (nx := [(_,_)]) ?e ?F ?N ?J ?A ?q1 ?q2; (case e => first | exact .inl rfl | exact .inr rfl); (case F => k_asm); (case N => k_asm); (case q1 => k_extra "SUB"); (case J => exact ⟨⟨_, rfl⟩, rfl⟩); (case A => exact ho); (case q2 => k_extra "OWN"))
  case done =>
    intro m₁ nx h tk hJ F₁ N₁
    obtain ⟨⟨t', hc⟩, rfl⟩ := hJ
    rw [hl] at hc
    repeat' (k_extra "S0"; k_extra "S1")
    ((try dsimp only); refine' post_of [] _ rfl ?F ?N ?h1 ?h2 ?h3; (case F => k_asm); (case N => k_asm); (case h1 => k_extra "SUB"); (case h2 => k_extra "KEEP"); (case h3 => exact gives0 fun P hP => hP _))
  )) only [↓wt]
theorem kwC4_1 : True := by
  k_with "subscriptTail" => (k_here; (with_reducible show wpAny _ _ (subscriptTail _ _ (Value.ref _) (Value.int _ _)) _ _ _); k_dflt (refine' item_any ?zqk1 ?zqk2 ?zqk3 ?zqk4 ?zqk5 ?_ ?zqk6; (case zqk1 => k_asm); (case zqk2 => k_mem); (case zqk3 => first | omega | exact fmod_lo _ (by omega)); (case zqk4 => first | omega | exact fmod_hi _ (by omega)); (case zqk5 => omega); (case zqk6 => with_unfolding_all rfl); k_whole))
  k_with "call ref" => (k_here; (with_reducible show wpAny _ _ (call (Value.ref 648) _) _ _ _); k_dflt (refine' tells_call0 (listk_tells ?zqhi) ?zqkB ?zqkF ?zqkX ?zqkN ?zqkS ?zqkT ?zqkK ?zqkd ?zqku ?_; k_extra "CA"; (case zqkS => k_extra "SUK"); (case zqhi => assumption); k_extra "CB"; k_whole; intro  h' tk' F' N'; k_extra "CZ"))
  trivial
theorem put_tells {w : World} {x d li pl il : Addr} {t1 t2 t3 t4 t5 kt : Tok} {i : Nat} {av sh lo : Value} {n1 n2 n3 n4 n : Nat} {us ps ws : List Value} (hi : i < 3) (hI : IntsAre ps (rangeKs 0 n)) (hn : n ≤ 1000) (hw0 : 0 < ws.length) (hw1 : ws.length ≤ 1000) (hul : us.length = n)
    (e1 : @Ne Nat x li) (e2 : @Ne Nat d li) (e3 : @Ne Nat pl li) (e4 : @Ne Nat il li) :
    Tells w 3 718 [.ref x, .ref pl, .ref il] [(x, instObj 113 d), (d, dictOf (vd w.params t1 t2 t3 t4 t5 (.str (kS i) kt) (.ref li) av sh lo) n1), (li, listOf us.toArray n2), (pl, listOf ps.toArray n3), (il, listOf ws.toArray n4)] [li] (GivesU li [(x, instObj 113 d), (d, dictOf (vd w.params t1 t2 t3 t4 t5 (.str (kS i) kt) (.ref li) av sh lo) n1), (li, listOf us.toArray n2), (pl, listOf ps.toArray n3), (il, listOf ws.toArray n4)] fun P => P .none (listOf (mixed us ws n).toArray n2) []) := by
  refine wo ?_
  simp (disch :=
  k_dflt (
  refine wk ?_
  have hpl : ps.length = n := by rw [hI.length, rangeKs_length]
  have hks := kS_no hi
  have hk1 := hks.1
  have hk2 := hks.2.2.2.2.1
  have hk3 := hks.2.2.2.2.2
  refine' tells_plainP (binds := [(Str.ofString "v", .ref x), (Str.ofString "places", .ref pl), (Str.ofString "items", .ref il)]) ?k1 ?k2 ?k3 ?k4 ?k5 ?k6 ?k7 ?k8 ?k9 ?_
  case k1 => k_is
  case k2 => k_is
  case k3 => exact fun s => BindsTo.of_eq rfl
  case k4 => exact locs rfl
  case k5 => decide
  case k6 => rfl
  case k7 => rfl
  case k8 => rfl
  case k9 => decide
  intro p loose mean mg mb dp un gd cn cs L a ccd cl outer base g L' s Pq B F K N T hdp hun hPq e9 A9
  (try dsimp only)
  repeat' ((fail_if_success (with_reducible show wpAny _ _ (pyIter (Value.ref _)) _ _ _)); k_extra "S0"; k_extra "S1")
  refine' loop_range (n := n) [(x, instObj 113 d), (d, dictOf (vd w.params t1 t2 t3 t4 t5 (.str (kS i) kt) (.ref li) av sh lo) n1), (li, listOf us.toArray n2), (pl, listOf ps.toArray n3), (il, listOf ws.toArray n4)] (fun j m nx => m (Str.ofString "v") = some (.ref x) ∧ m (Str.ofString "places") = some (.ref pl) ∧ m (Str.ofString "items") = some (.ref il) ∧ (∃ t, m (Str.ofString "count") = some (.int (ws.length : Nat) t)) ∧ m (Str.ofString "listed") = some (.bool false) ∧ nx = [(x, instObj 113 d), (d, dictOf (vd w.params t1 t2 t3 t4 t5 (.str (kS i) kt) (.ref li) av sh lo) n1), (li, listOf (mixed us ws j).toArray n2), (pl, listOf ps.toArray n3), (il, listOf ws.toArray n4)]) ?hh ?hr ?hs ?hz ?F ?N ?s ?j ?turn ?done
  case hh => rfl
  case hr => assumption
  case hs => rw [rangeKs_length]; exact rng_small (by omega) (by omega)
  case hz => rw [rangeKs_length]; exact rng_size
  case F => k_asm
  case N => k_asm
  case s => k_extra "SUB"
  case j => exact ⟨rfl, rfl, rfl, ⟨_, rfl⟩, rfl, by rw [mixed_zero]⟩
  case turn =>
    intro j t m₁ nx h tk own hj ho hJ F₁ N₁
    obtain ⟨hm1, hm2, hm3, ⟨t', hm4⟩, hm5, rfl⟩ := hJ
    have hml : (mixed us ws j).length = n := by rw [mixed_length (by omega)]; exact hul
    repeat' ((fail_if_success (with_reducible show wpAny _ _ (setItem _ _ _) _ _ _)); k_extra "S0"; k_extra "S1")
    rw [rangeKs_toNat hj]
    (try rw [fmod_toNat])
    refine' set_any (j := j) ?F ?N ?U ?k ?h ?f ?_
    case F => k_asm
    case N => k_asm
    case U => k_updF
    case k => first | rfl | omega
    case h => omega
    case f => omega
    intro h' F' N'
    (try dsimp only at N')
    (try k_sweep)

    rw [mixed_set (by omega)] at N'
    repeat' (k_extra "S0"; k_extra "S1")
    ((try dsimp only); refine' loopP_next (nx := [(x, instObj 113 d), (d, dictOf (vd w.params t1 t2 t3 t4 t5 (.str (kS i) kt) (.ref li) av sh lo) n1), (li, listOf (mixed us ws (j + 1)).toArray n2), (pl, listOf ps.toArray n3), (il, listOf ws.toArray n4)]) ?e ?F ?N ?J ?A ?q1 ?q2; (case e => first | exact .inl rfl | exact .inr rfl); (case F => k_asm); (case N => k_asm); (case q1 => k_extra "SUB"); (case J => exact ⟨by assumption, by assumption, by assumption, ⟨_, by assumption⟩, by assumption, rfl⟩); (case A => exact ho); (case q2 => k_extra "OWN"))
  case done =>
    intro m₁ nx h tk hJ F₁ N₁
    obtain ⟨hm1, hm2, hm3, ⟨t', hm4⟩, hm5, rfl⟩ := hJ
    repeat' (k_extra "S0"; k_extra "S1")
    ((try dsimp only); refine' post_of [(li, listOf (mixed us ws n).toArray n2)] _ rfl ?F ?N ?h1 ?h2 ?h3; (case F => k_asm); (case N => k_asm); (case h1 => k_extra "SUB"); (case h2 => k_extra "KEEP"); (case h3 => exact ⟨_, _, rfl, True.intro, fun P hP => hP⟩))
  )) only [↓wt]
end
section
open PySem PySem.W PyProof.Rows PySem.Calls
set_option Elab.async false
set_option maxRecDepth 100000 
set_option maxHeartbeats 8000000 
theorem kwC5_0 : True := by
  k_with_none
  k_with "MEM" => first | (with_reducible exact List.mem_cons_self) | ((with_reducible refine List.mem_cons_of_mem _ ?_); k_extra "MEM")
  k_with "ENTER" => (refine' code_defP ?zqk1 ?zqk2 ?zqk3 ?zqk4 ?zqk5 ?zqkA ?zqkF ?zqkK ?zqk6 ?zqk7 ?zqk8 ?zqk9 ?zqkB ?_ ?zqc2 ?zqc3 ?zqc4 ?zqc5; (case zqkA => exact rfl); (case zqkF => exact rfl); (case zqkK => exact rfl); (case zqk1 => k_asm); (case zqk2 => k_asm); (case zqk3 => k_asm); (case zqk4 => k_asm); (case zqk5 => k_asm); (case zqk6 => k_is); (case zqk7 => k_is); (case zqk8 => k_room); (case zqk9 => first | exact BindsTo.of_eq rfl | exact binds_K (by k_in) rfl (by k_is) rfl rfl rfl); (case zqc5 => decide); (case zqkB => exact locs rfl); (case zqc2 => exact rfl); (case zqc3 => exact rfl); (case zqc4 => exact rfl); k_whole; intro g' L' h' Q' FG' F' N' B' X' T' hQ' e9 A9; (try dsimp only); (try k_lift B'); (try k_fold))
  k_with "S0" => ((fail_if_success (with_reducible show Post _ _ _ _ _ _ _ _)); (fail_if_success (with_reducible show LoopP _ _ _ _ _ _ _ _)); (fail_if_success (with_reducible show CmpP _ _ _ _ _ _ _ _ _ _ _ _ _ _ _)))
  k_with "S1" => first | (k_unfold; (try dsimp only)) | (k_end; wrow_close) | walk1 | (with_reducible refine hand (by assumption) ?_; try dsimp only) | (dsimp only; walk1) | (leave1; try dsimp only)
  k_with "ROOM" => first | (refine' room0 ?zqh ?zqe; (case zqh => assumption); (case zqe => exact rfl)) | (refine' room1 ?zqh ?zqe; (case zqh => assumption); (case zqe => exact rfl)) | (refine' room2 ?zqh ?zqe; (case zqh => assumption); (case zqe => exact rfl)) | (refine' room3 ?zqh ?zqe; (case zqh => assumption); (case zqe => exact rfl)) | (refine' roomz ?zqh; (case zqh => assumption)) | ktr_room
  k_with "UNITS" => first | (refine' room0 ?zqh ?zqe; (case zqh => assumption); (case zqe => exact rfl)) | (refine' room1 ?zqh ?zqe; (case zqh => assumption); (case zqe => exact rfl)) | (refine' room2 ?zqh ?zqe; (case zqh => assumption); (case zqe => exact rfl)) | (refine' room3 ?zqh ?zqe; (case zqh => assumption); (case zqe => exact rfl)) | exact lt_num rfl | ktr_units
  k_with "AR" => first | assumption | exact Nat.le_max_right _ _ | exact Nat.le_max_left _ _ | exact Nat.max_lt.mpr ⟨by assumption, by assumption⟩ | (refine' le_up ?zqh ?zqe; (case zqh => assumption); (case zqe => exact rfl)) | omega
  k_with "SUT" => first | exact sub_self | (refine sub_skip ?_; k_extra "SUT")
  k_with "SUB" => first | exact sub_nil | ((with_reducible refine' sub_cons ?zqsm ?_); (case zqsm => k_mem); k_extra "SUB") | k_extra "SUT"
  k_with "SUK" => first | exact sub_nil | k_extra "SUT" | k_extra "SUB"
  k_with "KEEP" => first | (refine keep_hd (List.Mem.head _) ?_; k_extra "KEEP") | exact keep_of (by k_extra "SUK") | ((with_reducible refine' keep_cons ?zqkm ?_); (case zqkm => k_mem); k_extra "KEEP")
  k_with "APQ" => (rename Apart _ _ => h9; first | exact Apart.at h9 (by k_extra "MEM") (by k_extra "MEM") | exact ap_at h9 (by k_extra "MEM") (by k_extra "MEM") | (clear h9; k_extra "APQ"))
  k_with "ANQ" => (rename AllNe _ _ => h9; first | exact AllNe.at h9 (by k_extra "MEM") | exact an_at h9 (by k_extra "MEM") | (clear h9; k_extra "ANQ"))
  k_with "ALQ" => (rename AllLt _ _ => h9; first | exact lt_ne h9 (by k_extra "MEM") | exact lt_en h9 (by k_extra "MEM") | exact lt_ne2 h9 (by assumption) (by k_extra "MEM") | exact lt_en2 h9 (by assumption) (by k_extra "MEM") | (clear h9; k_extra "ALQ"))
  k_with "NEQ" => first | assumption | exact Ne.symm (by assumption) | exact Nat.ne_of_lt (by assumption) | exact Nat.ne_of_gt (by assumption) | k_extra "ALQ" | k_extra "ANQ" | k_extra "APQ" | omega
  k_with "APS" => (rename Apart _ _ => h9; first | exact Apart.subA h9 rfl (by k_extra "SUK") | (clear h9; k_extra "APS"))
  k_with "NE1" => (refine neN ?_; (try dsimp only); k_extra "NEQ")
  k_with "ALL" => first | exact all_nil | (rename AllLt _ _ => h9; exact lt_sub h9 (by k_extra "SUT")) | (refine' all_cons ?zqa ?zqb; (case zqa => k_ne); (case zqb => k_all))
  k_with "ALN" => first | exact ne_nil | (refine ne_cons ?_ ?_; (focus ((try dsimp only); k_extra "NEQ")); k_extra "ALN")
  k_with "APM" => first | exact ap_nil | k_extra "APS" | (refine ap_cons ?_ ?_; (focus k_extra "ALN"); k_extra "APM")
  k_with "CA" => ((case zqkB => k_asm); (case zqkF => k_asm); (case zqkX => k_asm); (case zqkN => k_asm))
  k_with "CB" => ((case zqkT => k_asm); (case zqkK => first | exact rfl | assumption); (case zqkd => k_extra "ROOM"); (case zqku => k_extra "UNITS"))
  k_with "CE" => all_goals ((try ((with_reducible rename News _ _ _ _ => h9); simp only [List.nil_append, List.cons_append] at h9)); (try ((with_reducible rename Apart [] _ => h7); clear h7)); (try dsimp only [Option.getD_some, Option.getD_none]); (try k_sweep); (try k_fold))
  k_with "CZ" => all_goals ((try dsimp only [Option.getD_some, Option.getD_none]); (try k_sweep); (try k_fold))
  k_with "call builtin:len" => (k_here; (with_reducible show wpAny _ _ (call (Value.builtin "len") [Value.ref _]) _ _ _); k_dflt (refine' len_sym ?zqk1 ?zqk2 ?zqk3 ?_; (case zqk1 => k_asm); (case zqk2 => k_mem); (case zqk3 => k_extra "AR"); k_whole))
  k_with "getMethod ref" => (k_here; (with_reducible show wpAny _ _ (getMethod (Value.ref _) (PySem.Str.ofString "get") _) _ _ _); k_dflt (refine' get_method ?zqk1 ?zqk2 ?zqk3 ?_; (case zqk1 => k_asm); (case zqk2 => k_mem); (case zqk3 => with_reducible assumption); k_whole))
  k_with "call builtin:dict.get" => (k_here; (with_reducible show wpAny _ _ (call (Value.builtin "dict.get") [Value.ref _, Value.str _ _]) _ _ _); k_dflt (refine' get_call ?zqk0 ?zqk1 ?zqk2 ?zqk3 ?_; (case zqk1 => k_asm); (case zqk2 => k_mem); (case zqk3 => with_reducible assumption); (case zqk0 => with_reducible assumption); k_whole))
  k_with "LOCA" => first | exact LocArgs.nil | (refine' LocArgs.cons ?zqlk ?zqld ?zqlv ?zqlt; (case zqlk => kernel_rfl!); (case zqld => kernel_rfl); (case zqlv => first | rfl | assumption); (case zqlt => k_extra "LOCA"))
  k_with "eval Call" => (k_here; (with_reducible show wpAny _ _ (eval (Expr.Call (Expr.Name _ _) (Expr.Name _ _ :: _) [] _) _) _ _ _); first | ((with_reducible refine' callO_loc ?zqF ?zqX ?zqT ?zqe ?zqk ?zqa ?zqb ?zqc ?zql ?_); k_dflt ((case zqF => k_asm); (case zqX => k_asm); (case zqT => k_asm); (case zqa => exact rfl); (case zqb => kernel_rfl!); (case zqc => kernel_rfl); (case zqe => k_is); (case zqk => k_is); (case zql => k_extra "LOCA"); k_whole)) | ((with_reducible refine' callC_loc ?zqF ?zqX ?zqT ?zqe ?zqk ?zqa ?zqb ?zqc ?zql ?_); k_dflt ((case zqF => k_asm); (case zqX => k_asm); (case zqT => k_asm); (case zqa => exact rfl); (case zqb => kernel_rfl!); (case zqc => kernel_rfl); (case zqe => k_is); (case zqk => k_is); (case zql => k_extra "LOCA"); k_whole)))
  k_with "eval Attribute Name" => (k_here; (with_reducible refine' attrO_loc ?zqF ?zqv ?zqa ?zqb ?zqc ?_); k_dflt ((case zqF => k_asm); (case zqa => exact rfl); (case zqb => kernel_rfl!); (case zqc => kernel_rfl); (case zqv => first | rfl | assumption); k_whole))
  k_with "ite" => (k_here; first | (k_closed; first | ((with_reducible refine ite_pos ?zqk2 ?_); k_dflt (case zqk2 => decide)) | ((with_reducible refine ite_neg ?zqk2 ?_); k_dflt (case zqk2 => decide))) | (refine' ite_bf ?zqk1 ?_; (case zqk1 => first | assumption | exact decide_eq_false (by omega) | exact beq_eq_false_iff_ne.mpr (by omega))) | (refine' ite_bt ?zqk1 ?_; (case zqk1 => first | assumption | exact decide_eq_true (by omega) | exact beq_iff_eq.mpr (by omega))))
  k_with "call type:dict" => (k_here; (with_reducible show wpAny _ _ (call (Value.type "dict") [Value.ref _]) _ _ _); k_dflt (refine' dict_copyK ?zqF ?zqN ?zqb ?zqm ?zqD ?zql ?zqz ?_; (case zqF => k_asm); (case zqN => k_asm); (case zqb => exact Top.nolimit (by k_asm)); (case zqm => k_mem); (case zqD => with_reducible assumption); (case zql => with_reducible assumption); (case zqz => omega); k_whole); intro d' h' o' F' N' l1 lo' hd'; (try k_lt l1))
  k_with "OWN" => (intro p9 hp9; repeat' (first | exact hp9 | refine List.mem_append.mpr (Or.inr ?_) | refine List.mem_cons_of_mem _ ?_))
  k_with "eval Name" => (k_here; first | ((with_reducible refine' nameO_L ?zqF ?zqv ?_ ?zqa ?zqb ?zqc); k_dflt ((case zqF => k_asm); (case zqa => exact rfl); (case zqb => kernel_rfl!); (case zqc => kernel_rfl); (case zqv => first | rfl | assumption); k_whole)) | ((with_reducible refine' nameO_K ?zqF ?zqX ?zqT ?zqe ?_ ?zqa ?zqb ?zqc); k_dflt ((case zqF => k_asm); (case zqX => k_asm); (case zqT => k_asm); (case zqa => exact rfl); (case zqb => kernel_rfl!); (case zqc => kernel_rfl); (case zqe => k_is); k_whole)) | ((with_reducible refine' nameC_L ?zqF ?zqv ?_ ?zqa ?zqb ?zqc); k_dflt ((case zqF => k_asm); (case zqa => exact rfl); (case zqb => kernel_rfl!); (case zqc => kernel_rfl); (case zqv => first | rfl | assumption); k_whole)) | ((with_reducible refine' nameC_K ?zqF ?zqX ?zqT ?zqe ?_ ?zqa ?zqb ?zqc); k_dflt ((case zqF => k_asm); (case zqX => k_asm); (case zqT => k_asm); (case zqa => exact rfl); (case zqb => kernel_rfl!); (case zqc => kernel_rfl); (case zqe => k_is); k_whole)))
  trivial
/-- what a Vector wears: nothing, or a dict with a dim, names, or neither -/
def Dr (w : World) (av : Value) (da : Addr) (o : Obj) (kvs : List (Str × Value)) (xd dd ld : Addr) (ex ed el : Obj) : Prop :=
  av = .none ∨ (av = .ref da ∧ o.IsDictOf (strKind PySem.Challenge.rw_pq1344_01.row.prog w) kvs ∧ (da == sysModules) = false ∧ (kvs.length ≤ 1000 ∧ valueAt kvs (Str.ofString "dimnames") = none) ∧
    ((valueAt kvs (Str.ofString "dim") = none ∧ valueAt kvs (Str.ofString "names") = none) ∨
     (valueAt kvs (Str.ofString "dim") = some (.ref xd) ∧ valueAt kvs (Str.ofString "names") = none ∧ ∃ u1 u2 u3 u4 u5 dkind datt dsh dlo dn1 nl, ∃ us : List Value, ex = instObj 113 dd ∧ ed = dictOf (vd w.params u1 u2 u3 u4 u5 dkind (.ref ld) datt dsh dlo) dn1 ∧ el = listOf us.toArray nl ∧ us.length = 2) ∨
     (valueAt kvs (Str.ofString "dim") = none ∧ valueAt kvs (Str.ofString "names") = some (.ref xd) ∧ ∃ u1 u2 u3 u4 u5 dkind datt dsh dlo dn1 nl, ∃ us : List Value, ex = instObj 113 dd ∧ ed = dictOf (vd w.params u1 u2 u3 u4 u5 dkind (.ref ld) datt dsh dlo) dn1 ∧ el = listOf us.toArray nl ∧ us.length ≤ 600)))
theorem dimnames_any {w : World} {x d da xd dd ld : Addr} {t1 t2 t3 t4 t5 kt : Tok} {i : Nat} {items av sh lo : Value} {n1 : Nat} {o ex ed el : Obj} {kvs : List (Str × Value)} (hi : i < 3) (hDr : Dr w av da o kvs xd dd ld ex ed el) : Tells w 2 233 [.ref x] [(x, instObj 113 d), (d, dictOf (vd w.params t1 t2 t3 t4 t5 (.str (kS i) kt) items av sh lo) n1), (da, o), (xd, ex), (dd, ed), (ld, el)] [] (Gives0 fun P => P .none) := by
  rcases hDr with rfl | ⟨rfl, hD, hlo, ⟨hkl, hdn⟩, _⟩
  · exact weak0 dimnames_none (by k_extra "SUB") (gives0 fun P hP => hP)
  · exact weak0 (dimnames_bare hD hlo hdn) (by k_extra "SUB") (gives0 fun P hP => hP)
theorem dim_any {w : World} {x d da xd dd ld : Addr} {t1 t2 t3 t4 t5 kt : Tok} {i : Nat} {items av sh lo : Value} {n1 : Nat} {o ex ed el : Obj} {kvs : List (Str × Value)} (hi : i < 3) (hDr : Dr w av da o kvs xd dd ld ex ed el) : Tells w 2 228 [.ref x] [(x, instObj 113 d), (d, dictOf (vd w.params t1 t2 t3 t4 t5 (.str (kS i) kt) items av sh lo) n1), (da, o), (xd, ex), (dd, ed), (ld, el)] [] (Gives0 fun P => ∀ v, (v = .none ∨ ∃ l, v = .ref l) → P v) := by
  refine wo ?_
  simp (disch :=
  k_dflt (
  refine wk ?_
  rcases hDr with rfl | ⟨rfl, hD, hlo, ⟨hkl, hdn⟩, hc⟩
  · exact weak0 dim_none (by k_extra "SUB") (gives0 fun P hP => hP _ (.inl rfl))
  · rcases hc with ⟨h1, h2⟩ | ⟨h1, h2, u1, u2, u3, u4, u5, dkind, datt, dsh, dlo, dn1, nl, us, rfl, rfl, rfl, hl⟩ | ⟨h1, h2, u1, u2, u3, u4, u5, dkind, datt, dsh, dlo, dn1, nl, us, rfl, rfl, rfl, hl⟩
    · exact weak0 (dim_bare hD hlo h1) (by k_extra "SUB") (gives0 fun P hP => hP _ (.inl rfl))
    · refine' weakG (dim_has (us := us) hD hlo h1 (by omega)) ?s ?r
      case s => k_extra "SUB"
      case r =>
        exact fun l n _ => ⟨[], fun _ z => (nomatch z), gives0 fun P hP => hP _ (.inr ⟨l, rfl⟩)⟩
    · exact weak0 (dim_bare hD hlo h1) (by k_extra "SUB") (gives0 fun P hP => hP _ (.inl rfl))
  )) only [↓wt]
theorem names_any {w : World} {x d da xd dd ld : Addr} {t1 t2 t3 t4 t5 kt : Tok} {i : Nat} {items av sh lo : Value} {n1 : Nat} {o ex ed el : Obj} {kvs : List (Str × Value)} (hi : i < 3) (hDr : Dr w av da o kvs xd dd ld ex ed el) : Tells w 3 221 [.ref x] [(x, instObj 113 d), (d, dictOf (vd w.params t1 t2 t3 t4 t5 (.str (kS i) kt) items av sh lo) n1), (da, o), (xd, ex), (dd, ed), (ld, el)] [] (Gives0 fun P => ∀ v, P v) := by
  refine wo ?_
  simp (disch :=
  k_dflt (
  refine wk ?_
  have k1 := (kS_no hi).2.1
  have k2 := (kS_no hi).2.2.1
  rcases hDr with rfl | ⟨rfl, hD, hlo, ⟨hkl, hdn⟩, hc⟩
  · exact weak0 (names_none k1 k2) (by k_extra "SUB") (gives0 fun P hP => hP _)
  · rcases hc with ⟨h1, h2⟩ | ⟨h1, h2, u1, u2, u3, u4, u5, dkind, datt, dsh, dlo, dn1, nl, us, rfl, rfl, rfl, hl⟩ | ⟨h1, h2, u1, u2, u3, u4, u5, dkind, datt, dsh, dlo, dn1, nl, us, rfl, rfl, rfl, hl⟩
    · exact weak0 (names_bare k1 k2 hD hlo h1 h2) (by k_extra "SUB") (gives0 fun P hP => hP _)
    · exact weak0 (names_dim k1 k2 hD hlo h1 h2 hl) (by k_extra "SUB") (gives0 fun P hP => hP _)
    · exact weakG (names_has k1 k2 hD hlo h1 h2 hl) (by k_extra "SUB") fun l n _ => ⟨[], fun _ z => (nomatch z), gives0 fun P hP => hP _⟩
  )) only [↓wt]
theorem matrix_tells {w : World} {ix dm : Addr} {y1 y2 y3 : Tok} {n9 : Nat} {dv : Value} (hdv : dv = .none ∨ ∃ l, dv = .ref l) :
    Tells w 3 634 [.ref ix, dv, .none] [(ix, instObj 84 dm), (dm, dictOf [ent w.params (Str.ofString "kind") y1 (.str (Str.ofString "missing") y2), ent w.params (Str.ofString "attrs") y3 .none] n9)] [] (Gives0 fun P => P .none) := by
  refine wo ?_
  simp (disch :=
  k_dflt (
  refine wk ?_
  rcases hdv with rfl | ⟨l, rfl⟩
  · refine' tells_cellsP (binds := [(Str.ofString "ix", .ref ix), (Str.ofString "dims", .none), (Str.ofString "dimnames", .none)]) ?k1 ?k2 ?k3 ?k4 ?k5 ?k6 ?k7 ?k8 ?k9 ?_
    case k1 => k_is
    case k2 => k_is
    case k3 => first | exact fun s _ => BindsTo.of_eq rfl | exact fun s X => binds_K X rfl (by k_is) rfl rfl rfl
    case k4 => exact rfl
    case k5 => decide +kernel
    case k6 => rfl
    case k7 => rfl
    case k8 => rfl
    case k9 => decide
    intro p loose mean mg mb dp un gd cn cs L a ccd cl outer base g L' s cells Pq B F K N Y l1 T hdp hun hPq e9 A9
    k_cells Y
    (try simp only [List.cons_append, List.nil_append] at N)
    (try dsimp only)
    repeat' (k_extra "S0"; k_extra "S1")
    ((try dsimp only); refine' post_of [] _ rfl ?F ?N ?h1 ?h2 ?h3; (case F => k_asm); (case N => k_asm); (case h1 => k_extra "SUB"); (case h2 => k_extra "KEEP"); (case h3 => exact gives0 fun P hP => hP))
  · refine' tells_cellsP (binds := [(Str.ofString "ix", .ref ix), (Str.ofString "dims", .ref l), (Str.ofString "dimnames", .none)]) ?k1 ?k2 ?k3 ?k4 ?k5 ?k6 ?k7 ?k8 ?k9 ?_
    case k1 => k_is
    case k2 => k_is
    case k3 => first | exact fun s _ => BindsTo.of_eq rfl | exact fun s X => binds_K X rfl (by k_is) rfl rfl rfl
    case k4 => exact rfl
    case k5 => decide +kernel
    case k6 => rfl
    case k7 => rfl
    case k8 => rfl
    case k9 => decide
    intro p loose mean mg mb dp un gd cn cs L a ccd cl outer base g L' s cells Pq B F K N Y l1 T hdp hun hPq e9 A9
    k_cells Y
    (try simp only [List.cons_append, List.nil_append] at N)
    (try dsimp only)
    repeat' (k_extra "S0"; k_extra "S1")
    ((try dsimp only); refine' post_of [] _ rfl ?F ?N ?h1 ?h2 ?h3; (case F => k_asm); (case N => k_asm); (case h1 => k_extra "SUB"); (case h2 => k_extra "KEEP"); (case h3 => exact gives0 fun P hP => hP))
  )) only [↓wt]
theorem positions_tells {w : World} {ix dm : Addr} {y1 y2 y3 t : Tok} {n9 n : Nat} {nv : Value} (hn : n ≤ 1000) :
    Tells w 1 593 [.ref ix, .int (n : Nat) t, nv, .bool true] [(ix, instObj 84 dm), (dm, dictOf [ent w.params (Str.ofString "kind") y1 (.str (Str.ofString "missing") y2), ent w.params (Str.ofString "attrs") y3 .none] n9)] [] (Gives [(ix, instObj 84 dm), (dm, dictOf [ent w.params (Str.ofString "kind") y1 (.str (Str.ofString "missing") y2), ent w.params (Str.ofString "attrs") y3 .none] n9)] fun P => ∀ T pl nl n0, ∀ ps : List Value, IntsAre ps (rangeKs 0 n) → @Ne Nat T pl → P (.ref T) [(T, { cls := .type "tuple", data := .seq #[.ref pl, .none] n0 }), (pl, listOf ps.toArray nl)]) := by
  refine wo ?_
  simp (disch :=
  k_dflt (
  refine wk ?_
  refine' tells_plainP (binds := [(Str.ofString "ix", .ref ix), (Str.ofString "n", .int (n : Nat) t), (Str.ofString "names", nv), (Str.ofString "extend", .bool true)]) ?k1 ?k2 ?k3 ?k4 ?k5 ?k6 ?k7 ?k8 ?k9 ?_
  case k1 => k_is
  case k2 => k_is
  case k3 => exact fun s => BindsTo.of_eq rfl
  case k4 => exact locs rfl
  case k5 => decide
  case k6 => rfl
  case k7 => rfl
  case k8 => rfl
  case k9 => decide
  intro p loose mean mg mb dp un gd cn cs L a ccd cl outer base g L' s Pq B F K N T hdp hun hPq e9 A9
  (try dsimp only)
  repeat' (k_extra "S0"; k_extra "S1")
  (rename IntsAre _ _ => hI9); rw [show ((n : Int) - 0).toNat = n by omega] at hI9
  ((try dsimp only); exact post_of _ _ rfl (by k_asm) (by k_asm) (by k_extra "SUB") (by k_extra "KEEP") (⟨by k_extra "APM", fun P hP => hP _ _ _ _ _ hI9 (by k_extra "NEQ")⟩))
  )) only [↓wt]
end
section
open PySem PySem.W PyProof.Rows PySem.Calls
set_option Elab.async false
set_option maxRecDepth 100000 
set_option maxHeartbeats 8000000 
theorem kwC6_0 : True := by
  k_with_none
  k_with "MEM" => first | (with_reducible exact List.mem_cons_self) | ((with_reducible refine List.mem_cons_of_mem _ ?_); k_extra "MEM")
  k_with "ENTER" => (refine' code_defP ?zqk1 ?zqk2 ?zqk3 ?zqk4 ?zqk5 ?zqkA ?zqkF ?zqkK ?zqk6 ?zqk7 ?zqk8 ?zqk9 ?zqkB ?_ ?zqc2 ?zqc3 ?zqc4 ?zqc5; (case zqkA => exact rfl); (case zqkF => exact rfl); (case zqkK => exact rfl); (case zqk1 => k_asm); (case zqk2 => k_asm); (case zqk3 => k_asm); (case zqk4 => k_asm); (case zqk5 => k_asm); (case zqk6 => k_is); (case zqk7 => k_is); (case zqk8 => k_room); (case zqk9 => first | exact BindsTo.of_eq rfl | exact binds_K (by k_in) rfl (by k_is) rfl rfl rfl); (case zqc5 => decide); (case zqkB => exact locs rfl); (case zqc2 => exact rfl); (case zqc3 => exact rfl); (case zqc4 => exact rfl); k_whole; intro g' L' h' Q' FG' F' N' B' X' T' hQ' e9 A9; (try dsimp only); (try k_lift B'); (try k_fold))
  k_with "S0" => ((fail_if_success (with_reducible show Post _ _ _ _ _ _ _ _)); (fail_if_success (with_reducible show LoopP _ _ _ _ _ _ _ _)); (fail_if_success (with_reducible show CmpP _ _ _ _ _ _ _ _ _ _ _ _ _ _ _)))
  k_with "S1" => first | (k_unfold; (try dsimp only)) | (k_end; wrow_close) | walk1 | (with_reducible refine hand (by assumption) ?_; try dsimp only) | (dsimp only; walk1) | (leave1; try dsimp only)
  k_with "ROOM" => first | (refine' room0 ?zqh ?zqe; (case zqh => assumption); (case zqe => exact rfl)) | (refine' room1 ?zqh ?zqe; (case zqh => assumption); (case zqe => exact rfl)) | (refine' room2 ?zqh ?zqe; (case zqh => assumption); (case zqe => exact rfl)) | (refine' room3 ?zqh ?zqe; (case zqh => assumption); (case zqe => exact rfl)) | (refine' roomz ?zqh; (case zqh => assumption)) | ktr_room
  k_with "UNITS" => first | (refine' room0 ?zqh ?zqe; (case zqh => assumption); (case zqe => exact rfl)) | (refine' room1 ?zqh ?zqe; (case zqh => assumption); (case zqe => exact rfl)) | (refine' room2 ?zqh ?zqe; (case zqh => assumption); (case zqe => exact rfl)) | (refine' room3 ?zqh ?zqe; (case zqh => assumption); (case zqe => exact rfl)) | exact lt_num rfl | ktr_units
  k_with "AR" => first | assumption | exact Nat.le_max_right _ _ | exact Nat.le_max_left _ _ | exact Nat.max_lt.mpr ⟨by assumption, by assumption⟩ | (refine' le_up ?zqh ?zqe; (case zqh => assumption); (case zqe => exact rfl)) | omega
  k_with "SUT" => first | exact sub_self | (refine sub_skip ?_; k_extra "SUT")
  k_with "SUB" => first | exact sub_nil | ((with_reducible refine' sub_cons ?zqsm ?_); (case zqsm => k_mem); k_extra "SUB") | k_extra "SUT"
  k_with "SUK" => first | exact sub_nil | k_extra "SUT" | k_extra "SUB"
  k_with "KEEP" => first | (refine keep_hd (List.Mem.head _) ?_; k_extra "KEEP") | exact keep_of (by k_extra "SUK") | ((with_reducible refine' keep_cons ?zqkm ?_); (case zqkm => k_mem); k_extra "KEEP")
  k_with "APQ" => (rename Apart _ _ => h9; first | exact Apart.at h9 (by k_extra "MEM") (by k_extra "MEM") | exact ap_at h9 (by k_extra "MEM") (by k_extra "MEM") | (clear h9; k_extra "APQ"))
  k_with "ANQ" => (rename AllNe _ _ => h9; first | exact AllNe.at h9 (by k_extra "MEM") | exact an_at h9 (by k_extra "MEM") | (clear h9; k_extra "ANQ"))
  k_with "ALQ" => (rename AllLt _ _ => h9; first | exact lt_ne h9 (by k_extra "MEM") | exact lt_en h9 (by k_extra "MEM") | exact lt_ne2 h9 (by assumption) (by k_extra "MEM") | exact lt_en2 h9 (by assumption) (by k_extra "MEM") | (clear h9; k_extra "ALQ"))
  k_with "NEQ" => first | assumption | exact Ne.symm (by assumption) | exact Nat.ne_of_lt (by assumption) | exact Nat.ne_of_gt (by assumption) | k_extra "ALQ" | k_extra "ANQ" | k_extra "APQ" | omega
  k_with "APS" => (rename Apart _ _ => h9; first | exact Apart.subA h9 rfl (by k_extra "SUK") | (clear h9; k_extra "APS"))
  k_with "NE1" => (refine neN ?_; (try dsimp only); k_extra "NEQ")
  k_with "ALL" => first | exact all_nil | (rename AllLt _ _ => h9; exact lt_sub h9 (by k_extra "SUT")) | (refine' all_cons ?zqa ?zqb; (case zqa => k_ne); (case zqb => k_all))
  k_with "ALN" => first | exact ne_nil | (refine ne_cons ?_ ?_; (focus ((try dsimp only); k_extra "NEQ")); k_extra "ALN")
  k_with "APM" => first | exact ap_nil | k_extra "APS" | (refine ap_cons ?_ ?_; (focus k_extra "ALN"); k_extra "APM")
  k_with "CA" => ((case zqkB => k_asm); (case zqkF => k_asm); (case zqkX => k_asm); (case zqkN => k_asm))
  k_with "CB" => ((case zqkT => k_asm); (case zqkK => first | exact rfl | assumption); (case zqkd => k_extra "ROOM"); (case zqku => k_extra "UNITS"))
  k_with "CE" => all_goals ((try ((with_reducible rename News _ _ _ _ => h9); simp only [List.nil_append, List.cons_append] at h9)); (try ((with_reducible rename Apart [] _ => h7); clear h7)); (try dsimp only [Option.getD_some, Option.getD_none]); (try k_sweep); (try k_fold))
  k_with "CZ" => all_goals ((try dsimp only [Option.getD_some, Option.getD_none]); (try k_sweep); (try k_fold))
  k_with "call builtin:len" => (k_here; (with_reducible show wpAny _ _ (call (Value.builtin "len") [Value.ref _]) _ _ _); k_dflt (refine' len_sym ?zqk1 ?zqk2 ?zqk3 ?_; (case zqk1 => k_asm); (case zqk2 => k_mem); (case zqk3 => k_extra "AR"); k_whole))
  k_with "getMethod ref" => (k_here; (with_reducible show wpAny _ _ (getMethod (Value.ref _) (PySem.Str.ofString "get") _) _ _ _); k_dflt (refine' get_method ?zqk1 ?zqk2 ?zqk3 ?_; (case zqk1 => k_asm); (case zqk2 => k_mem); (case zqk3 => with_reducible assumption); k_whole))
  k_with "call builtin:dict.get" => (k_here; (with_reducible show wpAny _ _ (call (Value.builtin "dict.get") [Value.ref _, Value.str _ _]) _ _ _); k_dflt (refine' get_call ?zqk0 ?zqk1 ?zqk2 ?zqk3 ?_; (case zqk1 => k_asm); (case zqk2 => k_mem); (case zqk3 => with_reducible assumption); (case zqk0 => with_reducible assumption); k_whole))
  k_with "LOCA" => first | exact LocArgs.nil | (refine' LocArgs.cons ?zqlk ?zqld ?zqlv ?zqlt; (case zqlk => kernel_rfl!); (case zqld => kernel_rfl); (case zqlv => first | rfl | assumption); (case zqlt => k_extra "LOCA"))
  k_with "eval Call" => (k_here; (with_reducible show wpAny _ _ (eval (Expr.Call (Expr.Name _ _) (Expr.Name _ _ :: _) [] _) _) _ _ _); first | ((with_reducible refine' callO_loc ?zqF ?zqX ?zqT ?zqe ?zqk ?zqa ?zqb ?zqc ?zql ?_); k_dflt ((case zqF => k_asm); (case zqX => k_asm); (case zqT => k_asm); (case zqa => exact rfl); (case zqb => kernel_rfl!); (case zqc => kernel_rfl); (case zqe => k_is); (case zqk => k_is); (case zql => k_extra "LOCA"); k_whole)) | ((with_reducible refine' callC_loc ?zqF ?zqX ?zqT ?zqe ?zqk ?zqa ?zqb ?zqc ?zql ?_); k_dflt ((case zqF => k_asm); (case zqX => k_asm); (case zqT => k_asm); (case zqa => exact rfl); (case zqb => kernel_rfl!); (case zqc => kernel_rfl); (case zqe => k_is); (case zqk => k_is); (case zql => k_extra "LOCA"); k_whole)))
  k_with "eval Attribute Name" => (k_here; (with_reducible refine' attrO_loc ?zqF ?zqv ?zqa ?zqb ?zqc ?_); k_dflt ((case zqF => k_asm); (case zqa => exact rfl); (case zqb => kernel_rfl!); (case zqc => kernel_rfl); (case zqv => first | rfl | assumption); k_whole))
  k_with "ite" => (k_here; first | (k_closed; first | ((with_reducible refine ite_pos ?zqk2 ?_); k_dflt (case zqk2 => decide)) | ((with_reducible refine ite_neg ?zqk2 ?_); k_dflt (case zqk2 => decide))) | (refine' ite_bf ?zqk1 ?_; (case zqk1 => first | assumption | exact decide_eq_false (by omega) | exact beq_eq_false_iff_ne.mpr (by omega))) | (refine' ite_bt ?zqk1 ?_; (case zqk1 => first | assumption | exact decide_eq_true (by omega) | exact beq_iff_eq.mpr (by omega))))
  k_with "call type:dict" => (k_here; (with_reducible show wpAny _ _ (call (Value.type "dict") [Value.ref _]) _ _ _); k_dflt (refine' dict_copyK ?zqF ?zqN ?zqb ?zqm ?zqD ?zql ?zqz ?_; (case zqF => k_asm); (case zqN => k_asm); (case zqb => exact Top.nolimit (by k_asm)); (case zqm => k_mem); (case zqD => with_reducible assumption); (case zql => with_reducible assumption); (case zqz => omega); k_whole); intro d' h' o' F' N' l1 lo' hd'; (try k_lt l1))
  k_with "OWN" => (intro p9 hp9; repeat' (first | exact hp9 | refine List.mem_append.mpr (Or.inr ?_) | refine List.mem_cons_of_mem _ ?_))
  k_with "eval Name" => (k_here; first | ((with_reducible refine' nameO_L ?zqF ?zqv ?_ ?zqa ?zqb ?zqc); k_dflt ((case zqF => k_asm); (case zqa => exact rfl); (case zqb => kernel_rfl!); (case zqc => kernel_rfl); (case zqv => first | rfl | assumption); k_whole)) | ((with_reducible refine' nameO_K ?zqF ?zqX ?zqT ?zqe ?_ ?zqa ?zqb ?zqc); k_dflt ((case zqF => k_asm); (case zqX => k_asm); (case zqT => k_asm); (case zqa => exact rfl); (case zqb => kernel_rfl!); (case zqc => kernel_rfl); (case zqe => k_is); k_whole)) | ((with_reducible refine' nameC_L ?zqF ?zqv ?_ ?zqa ?zqb ?zqc); k_dflt ((case zqF => k_asm); (case zqa => exact rfl); (case zqb => kernel_rfl!); (case zqc => kernel_rfl); (case zqv => first | rfl | assumption); k_whole)) | ((with_reducible refine' nameC_K ?zqF ?zqX ?zqT ?zqe ?_ ?zqa ?zqb ?zqc); k_dflt ((case zqF => k_asm); (case zqX => k_asm); (case zqT => k_asm); (case zqa => exact rfl); (case zqb => kernel_rfl!); (case zqc => kernel_rfl); (case zqe => k_is); k_whole)))
  trivial
/-- what may stand in a vector of kind i -/
def Okv (i : Nat) : Value → Prop
  | .none => True
  | .int k _ => (i = 0 ∧ (k = 0 ∨ k = 1)) ∨ (i = 1 ∧ -100 ≤ k ∧ k ≤ 100)
  | .str _ _ => i = 2
  | _ => False
theorem Okv.cases {i : Nat} {u : Value} (h : Okv i u) : u = .none ∨ (i = 0 ∧ ∃ t, u = .int 0 t) ∨ (i = 0 ∧ ∃ t, u = .int 1 t) ∨ (i = 1 ∧ ∃ k t, u = .int k t ∧ -100 ≤ k ∧ k ≤ 100) ∨ (i = 2 ∧ ∃ s t, u = .str s t) := by
  cases u with
  | none => exact .inl rfl
  | int k t =>
    rcases h with ⟨h, rfl | rfl⟩ | ⟨h, h1, h2⟩
    · exact .inr (.inl ⟨h, _, rfl⟩)
    · exact .inr (.inr (.inl ⟨h, _, rfl⟩))
    · exact .inr (.inr (.inr (.inl ⟨h, _, _, rfl, h1, h2⟩)))
  | str s t => exact .inr (.inr (.inr (.inr ⟨h, _, _, rfl⟩)))
  | _ => exact h.elim
/-- an item's data -/
def dat : Value → PyData
  | .int k _ => .int k
  | .str s _ => .str s
  | _ => .none
/-- an item raised from kind i to kind j -/
def rzd (i j : Nat) : PyData → PyData
  | .int k => if j = 2 ∧ i ≠ 2 then (if i = 0 then .str (if k = 1 then Str.ofString "TRUE" else Str.ofString "FALSE") else .str (Str.ofString (toString k))) else .int k
  | d => d
theorem pairs3 {i j : Nat} (h : i < j) (hj : j < 3) : (i = 0 ∧ j = 1) ∨ (i = 0 ∧ j = 2) ∨ (i = 1 ∧ j = 2) := by omega
theorem ok01 {u : Value} (h : Okv 0 u) : Okv 1 u ∧ dat u = rzd 0 1 (dat u) := by
  rcases h.cases with rfl | ⟨_, t, rfl⟩ | ⟨_, t, rfl⟩ | ⟨h0, _⟩ | ⟨h0, _⟩
  · exact ⟨True.intro, rfl⟩
  · exact ⟨.inr ⟨rfl, by decide, by decide⟩, rfl⟩
  · exact ⟨.inr ⟨rfl, by decide, by decide⟩, rfl⟩
  · exact absurd h0 (by decide)
  · exact absurd h0 (by decide)
theorem atomic_tells {w : World} {i : Nat} {t : Tok} (hi : i < 3) : Tells w 1 508 [.str (kS i) t] [] [] (Gives0 fun P => P (.bool true)) := by
  refine wo ?_
  simp (disch :=
  k_dflt (
  refine wk ?_
  rcases three hi with rfl | rfl | rfl
  all_goals dsimp only [kS]
  · refine' tells_plainP (binds := [(Str.ofString "kind", .str (Str.ofString "logical") t)]) ?k1 ?k2 ?k3 ?k4 ?k5 ?k6 ?k7 ?k8 ?k9 ?_
    case k1 => k_is
    case k2 => k_is
    case k3 => exact fun s => BindsTo.of_eq rfl
    case k4 => exact locs rfl
    case k5 => decide
    case k6 => rfl
    case k7 => rfl
    case k8 => rfl
    case k9 => decide
    intro p loose mean mg mb dp un gd cn cs L a ccd cl outer base g L' s Pq B F K N T hdp hun hPq e9 A9
    (try dsimp only)
    repeat' (k_extra "S0"; k_extra "S1")
    ((try dsimp only); refine' post_of [] _ rfl ?F ?N ?h1 ?h2 ?h3; (case F => k_asm); (case N => k_asm); (case h1 => k_extra "SUB"); (case h2 => k_extra "KEEP"); (case h3 => exact gives0 fun P hP => hP))
  · refine' tells_plainP (binds := [(Str.ofString "kind", .str (Str.ofString "integer") t)]) ?k1 ?k2 ?k3 ?k4 ?k5 ?k6 ?k7 ?k8 ?k9 ?_
    case k1 => k_is
    case k2 => k_is
    case k3 => exact fun s => BindsTo.of_eq rfl
    case k4 => exact locs rfl
    case k5 => decide
    case k6 => rfl
    case k7 => rfl
    case k8 => rfl
    case k9 => decide
    intro p loose mean mg mb dp un gd cn cs L a ccd cl outer base g L' s Pq B F K N T hdp hun hPq e9 A9
    (try dsimp only)
    repeat' (k_extra "S0"; k_extra "S1")
    ((try dsimp only); refine' post_of [] _ rfl ?F ?N ?h1 ?h2 ?h3; (case F => k_asm); (case N => k_asm); (case h1 => k_extra "SUB"); (case h2 => k_extra "KEEP"); (case h3 => exact gives0 fun P hP => hP))
  · refine' tells_plainP (binds := [(Str.ofString "kind", .str (Str.ofString "character") t)]) ?k1 ?k2 ?k3 ?k4 ?k5 ?k6 ?k7 ?k8 ?k9 ?_
    case k1 => k_is
    case k2 => k_is
    case k3 => exact fun s => BindsTo.of_eq rfl
    case k4 => exact locs rfl
    case k5 => decide
    case k6 => rfl
    case k7 => rfl
    case k8 => rfl
    case k9 => decide
    intro p loose mean mg mb dp un gd cn cs L a ccd cl outer base g L' s Pq B F K N T hdp hun hPq e9 A9
    (try dsimp only)
    repeat' (k_extra "S0"; k_extra "S1")
    ((try dsimp only); refine' post_of [] _ rfl ?F ?N ?h1 ?h2 ?h3; (case F => k_asm); (case N => k_asm); (case h1 => k_extra "SUB"); (case h2 => k_extra "KEEP"); (case h3 => exact gives0 fun P hP => hP))
  )) only [↓wt]
theorem toint_tells {w : World} {t : Tok} {u : Value} {nt : Addr} (hu : Okv 0 u) : Tells w 1 480 [.str (kS 0) t, u, .ref nt] [] [] (Gives0 fun P => P u) := by
  refine wo ?_
  simp (disch :=
  k_dflt (
  refine wk ?_
  have hu' : u = .none ∨ ∃ k t, u = .int k t := by rcases hu.cases with rfl | ⟨_, t, rfl⟩ | ⟨_, t, rfl⟩ | ⟨h0, _⟩ | ⟨h0, _⟩ <;> first | exact .inl rfl | exact .inr ⟨_, _, rfl⟩ | exact absurd h0 (by decide)
  clear hu
  dsimp only [kS]
  rcases hu' with rfl | ⟨k, t', rfl⟩
  · refine' tells_plainP (binds := [(Str.ofString "kind", .str (Str.ofString "logical") t), (Str.ofString "item", .none), (Str.ofString "notes", .ref nt)]) ?k1 ?k2 ?k3 ?k4 ?k5 ?k6 ?k7 ?k8 ?k9 ?_
    case k1 => k_is
    case k2 => k_is
    case k3 => exact fun s => BindsTo.of_eq rfl
    case k4 => exact locs rfl
    case k5 => decide
    case k6 => rfl
    case k7 => rfl
    case k8 => rfl
    case k9 => decide
    intro p loose mean mg mb dp un gd cn cs L a ccd cl outer base g L' s Pq B F K N T hdp hun hPq e9 A9
    (try dsimp only)
    repeat' (k_extra "S0"; k_extra "S1")
    ((try dsimp only); refine' post_of [] _ rfl ?F ?N ?h1 ?h2 ?h3; (case F => k_asm); (case N => k_asm); (case h1 => k_extra "SUB"); (case h2 => k_extra "KEEP"); (case h3 => exact gives0 fun P hP => hP))
  · refine' tells_plainP (binds := [(Str.ofString "kind", .str (Str.ofString "logical") t), (Str.ofString "item", .int k t'), (Str.ofString "notes", .ref nt)]) ?k1 ?k2 ?k3 ?k4 ?k5 ?k6 ?k7 ?k8 ?k9 ?_
    case k1 => k_is
    case k2 => k_is
    case k3 => exact fun s => BindsTo.of_eq rfl
    case k4 => exact locs rfl
    case k5 => decide
    case k6 => rfl
    case k7 => rfl
    case k8 => rfl
    case k9 => decide
    intro p loose mean mg mb dp un gd cn cs L a ccd cl outer base g L' s Pq B F K N T hdp hun hPq e9 A9
    (try dsimp only)
    repeat' (k_extra "S0"; k_extra "S1")
    ((try dsimp only); refine' post_of [] _ rfl ?F ?N ?h1 ?h2 ?h3; (case F => k_asm); (case N => k_asm); (case h1 => k_extra "SUB"); (case h2 => k_extra "KEEP"); (case h3 => exact gives0 fun P hP => hP))
  )) only [↓wt]
theorem totext_tells {w : World} {i : Nat} {t : Tok} {u : Value} (hi : i < 2) (hu : Okv i u) : Tells w 1 494 [.str (kS i) t, u] [] [] (Gives0 fun P => ∀ v, (Okv 2 v ∧ dat v = rzd i 2 (dat u)) → P v) := by
  refine wo ?_
  simp (disch :=
  k_dflt (
  refine wk ?_
  have hi2 : i = 0 ∨ i = 1 := by omega
  rcases hi2 with rfl | rfl
  all_goals dsimp only [kS]
  · rcases hu.cases with rfl | ⟨h0, t2, rfl⟩ | ⟨h0, t2, rfl⟩ | ⟨h0, k, t2, rfl, h1, h2⟩ | ⟨h0, s, t2, rfl⟩
    · refine' tells_plainP (binds := [(Str.ofString "kind", .str (Str.ofString "logical") t), (Str.ofString "item", .none)]) ?k1 ?k2 ?k3 ?k4 ?k5 ?k6 ?k7 ?k8 ?k9 ?_
      case k1 => k_is
      case k2 => k_is
      case k3 => exact fun s => BindsTo.of_eq rfl
      case k4 => exact locs rfl
      case k5 => decide
      case k6 => rfl
      case k7 => rfl
      case k8 => rfl
      case k9 => decide
      intro p loose mean mg mb dp un gd cn cs L a ccd cl outer base g L' s Pq B F K N T hdp hun hPq e9 A9
      (try dsimp only)
      repeat' (k_extra "S0"; k_extra "S1")
      ((try dsimp only); refine' post_of [] _ rfl ?F ?N ?h1 ?h2 ?h3; (case F => k_asm); (case N => k_asm); (case h1 => k_extra "SUB"); (case h2 => k_extra "KEEP"); (case h3 => exact gives0 fun P hP => hP _ ⟨True.intro, rfl⟩))
    · refine' tells_plainP (binds := [(Str.ofString "kind", .str (Str.ofString "logical") t), (Str.ofString "item", .int 0 t2)]) ?k1 ?k2 ?k3 ?k4 ?k5 ?k6 ?k7 ?k8 ?k9 ?_
      case k1 => k_is
      case k2 => k_is
      case k3 => exact fun s => BindsTo.of_eq rfl
      case k4 => exact locs rfl
      case k5 => decide
      case k6 => rfl
      case k7 => rfl
      case k8 => rfl
      case k9 => decide
      intro p loose mean mg mb dp un gd cn cs L a ccd cl outer base g L' s Pq B F K N T hdp hun hPq e9 A9
      (try dsimp only)
      repeat' (k_extra "S0"; k_extra "S1")
      ((try dsimp only); refine' post_of [] _ rfl ?F ?N ?h1 ?h2 ?h3; (case F => k_asm); (case N => k_asm); (case h1 => k_extra "SUB"); (case h2 => k_extra "KEEP"); (case h3 => exact gives0 fun P hP => hP _ ⟨rfl, rfl⟩))
    · refine' tells_plainP (binds := [(Str.ofString "kind", .str (Str.ofString "logical") t), (Str.ofString "item", .int 1 t2)]) ?k1 ?k2 ?k3 ?k4 ?k5 ?k6 ?k7 ?k8 ?k9 ?_
      case k1 => k_is
      case k2 => k_is
      case k3 => exact fun s => BindsTo.of_eq rfl
      case k4 => exact locs rfl
      case k5 => decide
      case k6 => rfl
      case k7 => rfl
      case k8 => rfl
      case k9 => decide
      intro p loose mean mg mb dp un gd cn cs L a ccd cl outer base g L' s Pq B F K N T hdp hun hPq e9 A9
      (try dsimp only)
      repeat' (k_extra "S0"; k_extra "S1")
      ((try dsimp only); refine' post_of [] _ rfl ?F ?N ?h1 ?h2 ?h3; (case F => k_asm); (case N => k_asm); (case h1 => k_extra "SUB"); (case h2 => k_extra "KEEP"); (case h3 => exact gives0 fun P hP => hP _ ⟨rfl, rfl⟩))
    · exact absurd h0 (by decide)
    · exact absurd h0 (by decide)
  · rcases hu.cases with rfl | ⟨h0, t2, rfl⟩ | ⟨h0, t2, rfl⟩ | ⟨h0, k, t2, rfl, h1, h2⟩ | ⟨h0, s, t2, rfl⟩
    · refine' tells_plainP (binds := [(Str.ofString "kind", .str (Str.ofString "integer") t), (Str.ofString "item", .none)]) ?k1 ?k2 ?k3 ?k4 ?k5 ?k6 ?k7 ?k8 ?k9 ?_
      case k1 => k_is
      case k2 => k_is
      case k3 => exact fun s => BindsTo.of_eq rfl
      case k4 => exact locs rfl
      case k5 => decide
      case k6 => rfl
      case k7 => rfl
      case k8 => rfl
      case k9 => decide
      intro p loose mean mg mb dp un gd cn cs L a ccd cl outer base g L' s Pq B F K N T hdp hun hPq e9 A9
      (try dsimp only)
      repeat' (k_extra "S0"; k_extra "S1")
      ((try dsimp only); refine' post_of [] _ rfl ?F ?N ?h1 ?h2 ?h3; (case F => k_asm); (case N => k_asm); (case h1 => k_extra "SUB"); (case h2 => k_extra "KEEP"); (case h3 => exact gives0 fun P hP => hP _ ⟨True.intro, rfl⟩))
    · exact absurd h0 (by decide)
    · exact absurd h0 (by decide)
    · refine' tells_plainP (binds := [(Str.ofString "kind", .str (Str.ofString "integer") t), (Str.ofString "item", .int k t2)]) ?k1 ?k2 ?k3 ?k4 ?k5 ?k6 ?k7 ?k8 ?k9 ?_
      case k1 => k_is
      case k2 => k_is
      case k3 => exact fun s => BindsTo.of_eq rfl
      case k4 => exact locs rfl
      case k5 => decide
      case k6 => rfl
      case k7 => rfl
      case k8 => rfl
      case k9 => decide
      intro p loose mean mg mb dp un gd cn cs L a ccd cl outer base g L' s Pq B F K N T hdp hun hPq e9 A9
      (try dsimp only)
      repeat' (k_extra "S0"; k_extra "S1")
      ((try dsimp only); refine' post_of [] _ rfl ?F ?N ?h1 ?h2 ?h3; (case F => k_asm); (case N => k_asm); (case h1 => k_extra "SUB"); (case h2 => k_extra "KEEP"); (case h3 => exact gives0 fun P hP => hP _ ⟨rfl, rfl⟩))
    · exact absurd h0 (by decide)
  )) only [↓wt]
theorem kwC6_1 : True := by
  k_with "call ref" => (k_here; (with_reducible show wpAny _ _ (call (Value.ref 508) _) _ _ _); k_dflt (refine' tells_call0 (atomic_tells ?zqhi) ?zqkB ?zqkF ?zqkX ?zqkN ?zqkS ?zqkT ?zqkK ?zqkd ?zqku ?_; k_extra "CA"; (case zqkS => k_extra "SUK"); (case zqhi => first | assumption | decide); k_extra "CB"; k_whole; intro  h' tk' F' N'; k_extra "CZ"))
  k_with "call ref" => (k_here; (with_reducible show wpAny _ _ (call (Value.ref 480) _) _ _ _); k_dflt (refine' tells_call0 (toint_tells ?zqhu) ?zqkB ?zqkF ?zqkX ?zqkN ?zqkS ?zqkT ?zqkK ?zqkd ?zqku ?_; k_extra "CA"; (case zqkS => k_extra "SUK"); (case zqhu => assumption); k_extra "CB"; k_whole; intro  h' tk' F' N'; k_extra "CZ"))
  k_with "call ref" => (k_here; (with_reducible show wpAny _ _ (call (Value.ref 494) _) _ _ _); k_dflt (refine' tells_call0 (totext_tells ?zqhi ?zqhu) ?zqkB ?zqkF ?zqkX ?zqkN ?zqkS ?zqkT ?zqkK ?zqkd ?zqku ?_; k_extra "CA"; (case zqkS => k_extra "SUK"); (case zqhi => assumption); (case zqhu => assumption); k_extra "CB"; k_whole; intro v9Z hv9Z h' tk' F' N'; k_extra "CZ"))
  trivial
theorem item_tells {w : World} {i j : Nat} {t1 t3 : Tok} {u : Value} {nt : Addr} (hij : i < j) (hj : j < 3) (hu : Okv i u) :
    Tells w 3 501 [.str (kS i) t1, u, .str (kS j) t3, .ref nt] [] [] (Gives0 fun P => ∀ v, (Okv j v ∧ dat v = rzd i j (dat u)) → P v) := by
  refine wo ?_
  simp (disch :=
  k_dflt (
  refine wk ?_
  have hc : (i = 0 ∧ j = 1) ∨ (i < 2 ∧ j = 2) := by omega
  rcases hc with ⟨rfl, rfl⟩ | ⟨hi, rfl⟩
  · show Tells w 3 501 [.str (kS 0) t1, u, .str (Str.ofString "integer") t3, .ref nt] _ _ _
    have hk0 : (kS 0 == Str.ofString "integer") = false := rfl
    refine' tells_plainP (binds := [(Str.ofString "kind", .str (kS 0) t1), (Str.ofString "item", u), (Str.ofString "to", .str (Str.ofString "integer") t3), (Str.ofString "notes", .ref nt)]) ?k1 ?k2 ?k3 ?k4 ?k5 ?k6 ?k7 ?k8 ?k9 ?_
    case k1 => k_is
    case k2 => k_is
    case k3 => exact fun s => BindsTo.of_eq rfl
    case k4 => exact locs rfl
    case k5 => decide
    case k6 => rfl
    case k7 => rfl
    case k8 => rfl
    case k9 => decide
    intro p loose mean mg mb dp un gd cn cs L a ccd cl outer base g L' s Pq B F K N T hdp hun hPq e9 A9
    (try dsimp only)
    repeat' (k_extra "S0"; k_extra "S1")
    ((try dsimp only); refine' post_of [] _ rfl ?F ?N ?h1 ?h2 ?h3; (case F => k_asm); (case N => k_asm); (case h1 => k_extra "SUB"); (case h2 => k_extra "KEEP"); (case h3 => exact gives0 fun P hP => hP _ (ok01 hu)))
  · show Tells w 3 501 [.str (kS i) t1, u, .str (Str.ofString "character") t3, .ref nt] _ _ _
    have hi3 : i < 3 := by omega
    have hk0 : (kS i == Str.ofString "character") = false := by rcases (show i = 0 ∨ i = 1 by omega) with rfl | rfl <;> rfl
    refine' tells_plainP (binds := [(Str.ofString "kind", .str (kS i) t1), (Str.ofString "item", u), (Str.ofString "to", .str (Str.ofString "character") t3), (Str.ofString "notes", .ref nt)]) ?k1 ?k2 ?k3 ?k4 ?k5 ?k6 ?k7 ?k8 ?k9 ?_
    case k1 => k_is
    case k2 => k_is
    case k3 => exact fun s => BindsTo.of_eq rfl
    case k4 => exact locs rfl
    case k5 => decide
    case k6 => rfl
    case k7 => rfl
    case k8 => rfl
    case k9 => decide
    intro p loose mean mg mb dp un gd cn cs L a ccd cl outer base g L' s Pq B F K N T hdp hun hPq e9 A9
    (try dsimp only)
    repeat' (k_extra "S0"; k_extra "S1")
    ((try dsimp only); refine' post_of [] _ rfl ?F ?N ?h1 ?h2 ?h3; (case F => k_asm); (case N => k_asm); (case h1 => k_extra "SUB"); (case h2 => k_extra "KEEP"); (case h3 => exact gives0 fun P hP => hP _ (by assumption)))
  )) only [↓wt]
end
section
open PySem PySem.W PyProof.Rows PySem.Calls
set_option Elab.async false
set_option maxRecDepth 100000 
set_option maxHeartbeats 8000000 
theorem kwC7_0 : True := by
  k_with_none
  k_with "MEM" => first | (with_reducible exact List.mem_cons_self) | ((with_reducible refine List.mem_cons_of_mem _ ?_); k_extra "MEM")
  k_with "ENTER" => (refine' code_defP ?zqk1 ?zqk2 ?zqk3 ?zqk4 ?zqk5 ?zqkA ?zqkF ?zqkK ?zqk6 ?zqk7 ?zqk8 ?zqk9 ?zqkB ?_ ?zqc2 ?zqc3 ?zqc4 ?zqc5; (case zqkA => exact rfl); (case zqkF => exact rfl); (case zqkK => exact rfl); (case zqk1 => k_asm); (case zqk2 => k_asm); (case zqk3 => k_asm); (case zqk4 => k_asm); (case zqk5 => k_asm); (case zqk6 => k_is); (case zqk7 => k_is); (case zqk8 => k_room); (case zqk9 => first | exact BindsTo.of_eq rfl | exact binds_K (by k_in) rfl (by k_is) rfl rfl rfl); (case zqc5 => decide); (case zqkB => exact locs rfl); (case zqc2 => exact rfl); (case zqc3 => exact rfl); (case zqc4 => exact rfl); k_whole; intro g' L' h' Q' FG' F' N' B' X' T' hQ' e9 A9; (try dsimp only); (try k_lift B'); (try k_fold))
  k_with "S0" => ((fail_if_success (with_reducible show Post _ _ _ _ _ _ _ _)); (fail_if_success (with_reducible show LoopP _ _ _ _ _ _ _ _)); (fail_if_success (with_reducible show CmpP _ _ _ _ _ _ _ _ _ _ _ _ _ _ _)))
  k_with "S1" => first | (k_unfold; (try dsimp only)) | (k_end; wrow_close) | walk1 | (with_reducible refine hand (by assumption) ?_; try dsimp only) | (dsimp only; walk1) | (leave1; try dsimp only)
  k_with "ROOM" => first | (refine' room0 ?zqh ?zqe; (case zqh => assumption); (case zqe => exact rfl)) | (refine' room1 ?zqh ?zqe; (case zqh => assumption); (case zqe => exact rfl)) | (refine' room2 ?zqh ?zqe; (case zqh => assumption); (case zqe => exact rfl)) | (refine' room3 ?zqh ?zqe; (case zqh => assumption); (case zqe => exact rfl)) | (refine' roomz ?zqh; (case zqh => assumption)) | ktr_room
  k_with "UNITS" => first | (refine' room0 ?zqh ?zqe; (case zqh => assumption); (case zqe => exact rfl)) | (refine' room1 ?zqh ?zqe; (case zqh => assumption); (case zqe => exact rfl)) | (refine' room2 ?zqh ?zqe; (case zqh => assumption); (case zqe => exact rfl)) | (refine' room3 ?zqh ?zqe; (case zqh => assumption); (case zqe => exact rfl)) | exact lt_num rfl | ktr_units
  k_with "AR" => first | assumption | exact Nat.le_max_right _ _ | exact Nat.le_max_left _ _ | exact Nat.max_lt.mpr ⟨by assumption, by assumption⟩ | (refine' le_up ?zqh ?zqe; (case zqh => assumption); (case zqe => exact rfl)) | omega
  k_with "SUT" => first | exact sub_self | (refine sub_skip ?_; k_extra "SUT")
  k_with "SUB" => first | exact sub_nil | ((with_reducible refine' sub_cons ?zqsm ?_); (case zqsm => k_mem); k_extra "SUB") | k_extra "SUT"
  k_with "SUK" => first | exact sub_nil | k_extra "SUT" | k_extra "SUB"
  k_with "KEEP" => first | (refine keep_hd (List.Mem.head _) ?_; k_extra "KEEP") | exact keep_of (by k_extra "SUK") | ((with_reducible refine' keep_cons ?zqkm ?_); (case zqkm => k_mem); k_extra "KEEP")
  k_with "APQ" => (rename Apart _ _ => h9; first | exact Apart.at h9 (by k_extra "MEM") (by k_extra "MEM") | exact ap_at h9 (by k_extra "MEM") (by k_extra "MEM") | (clear h9; k_extra "APQ"))
  k_with "ANQ" => (rename AllNe _ _ => h9; first | exact AllNe.at h9 (by k_extra "MEM") | exact an_at h9 (by k_extra "MEM") | (clear h9; k_extra "ANQ"))
  k_with "ALQ" => (rename AllLt _ _ => h9; first | exact lt_ne h9 (by k_extra "MEM") | exact lt_en h9 (by k_extra "MEM") | exact lt_ne2 h9 (by assumption) (by k_extra "MEM") | exact lt_en2 h9 (by assumption) (by k_extra "MEM") | (clear h9; k_extra "ALQ"))
  k_with "NEQ" => first | assumption | exact Ne.symm (by assumption) | exact Nat.ne_of_lt (by assumption) | exact Nat.ne_of_gt (by assumption) | k_extra "ALQ" | k_extra "ANQ" | k_extra "APQ" | omega
  k_with "APS" => (rename Apart _ _ => h9; first | exact Apart.subA h9 rfl (by k_extra "SUK") | (clear h9; k_extra "APS"))
  k_with "NE1" => (refine neN ?_; (try dsimp only); k_extra "NEQ")
  k_with "ALL" => first | exact all_nil | (rename AllLt _ _ => h9; exact lt_sub h9 (by k_extra "SUT")) | (refine' all_cons ?zqa ?zqb; (case zqa => k_ne); (case zqb => k_all))
  k_with "ALN" => first | exact ne_nil | (refine ne_cons ?_ ?_; (focus ((try dsimp only); k_extra "NEQ")); k_extra "ALN")
  k_with "APM" => first | exact ap_nil | k_extra "APS" | (refine ap_cons ?_ ?_; (focus k_extra "ALN"); k_extra "APM")
  k_with "CA" => ((case zqkB => k_asm); (case zqkF => k_asm); (case zqkX => k_asm); (case zqkN => k_asm))
  k_with "CB" => ((case zqkT => k_asm); (case zqkK => first | exact rfl | assumption); (case zqkd => k_extra "ROOM"); (case zqku => k_extra "UNITS"))
  k_with "CE" => all_goals ((try ((with_reducible rename News _ _ _ _ => h9); simp only [List.nil_append, List.cons_append] at h9)); (try ((with_reducible rename Apart [] _ => h7); clear h7)); (try dsimp only [Option.getD_some, Option.getD_none]); (try k_sweep); (try k_fold))
  k_with "CZ" => all_goals ((try dsimp only [Option.getD_some, Option.getD_none]); (try k_sweep); (try k_fold))
  k_with "call builtin:len" => (k_here; (with_reducible show wpAny _ _ (call (Value.builtin "len") [Value.ref _]) _ _ _); k_dflt (refine' len_sym ?zqk1 ?zqk2 ?zqk3 ?_; (case zqk1 => k_asm); (case zqk2 => k_mem); (case zqk3 => k_extra "AR"); k_whole))
  k_with "getMethod ref" => (k_here; (with_reducible show wpAny _ _ (getMethod (Value.ref _) (PySem.Str.ofString "get") _) _ _ _); k_dflt (refine' get_method ?zqk1 ?zqk2 ?zqk3 ?_; (case zqk1 => k_asm); (case zqk2 => k_mem); (case zqk3 => with_reducible assumption); k_whole))
  k_with "call builtin:dict.get" => (k_here; (with_reducible show wpAny _ _ (call (Value.builtin "dict.get") [Value.ref _, Value.str _ _]) _ _ _); k_dflt (refine' get_call ?zqk0 ?zqk1 ?zqk2 ?zqk3 ?_; (case zqk1 => k_asm); (case zqk2 => k_mem); (case zqk3 => with_reducible assumption); (case zqk0 => with_reducible assumption); k_whole))
  k_with "LOCA" => first | exact LocArgs.nil | (refine' LocArgs.cons ?zqlk ?zqld ?zqlv ?zqlt; (case zqlk => kernel_rfl!); (case zqld => kernel_rfl); (case zqlv => first | rfl | assumption); (case zqlt => k_extra "LOCA"))
  k_with "eval Call" => (k_here; (with_reducible show wpAny _ _ (eval (Expr.Call (Expr.Name _ _) (Expr.Name _ _ :: _) [] _) _) _ _ _); first | ((with_reducible refine' callO_loc ?zqF ?zqX ?zqT ?zqe ?zqk ?zqa ?zqb ?zqc ?zql ?_); k_dflt ((case zqF => k_asm); (case zqX => k_asm); (case zqT => k_asm); (case zqa => exact rfl); (case zqb => kernel_rfl!); (case zqc => kernel_rfl); (case zqe => k_is); (case zqk => k_is); (case zql => k_extra "LOCA"); k_whole)) | ((with_reducible refine' callC_loc ?zqF ?zqX ?zqT ?zqe ?zqk ?zqa ?zqb ?zqc ?zql ?_); k_dflt ((case zqF => k_asm); (case zqX => k_asm); (case zqT => k_asm); (case zqa => exact rfl); (case zqb => kernel_rfl!); (case zqc => kernel_rfl); (case zqe => k_is); (case zqk => k_is); (case zql => k_extra "LOCA"); k_whole)))
  k_with "eval Attribute Name" => (k_here; (with_reducible refine' attrO_loc ?zqF ?zqv ?zqa ?zqb ?zqc ?_); k_dflt ((case zqF => k_asm); (case zqa => exact rfl); (case zqb => kernel_rfl!); (case zqc => kernel_rfl); (case zqv => first | rfl | assumption); k_whole))
  k_with "ite" => (k_here; first | (k_closed; first | ((with_reducible refine ite_pos ?zqk2 ?_); k_dflt (case zqk2 => decide)) | ((with_reducible refine ite_neg ?zqk2 ?_); k_dflt (case zqk2 => decide))) | (refine' ite_bf ?zqk1 ?_; (case zqk1 => first | assumption | exact decide_eq_false (by omega) | exact beq_eq_false_iff_ne.mpr (by omega))) | (refine' ite_bt ?zqk1 ?_; (case zqk1 => first | assumption | exact decide_eq_true (by omega) | exact beq_iff_eq.mpr (by omega))))
  k_with "call type:dict" => (k_here; (with_reducible show wpAny _ _ (call (Value.type "dict") [Value.ref _]) _ _ _); k_dflt (refine' dict_copyK ?zqF ?zqN ?zqb ?zqm ?zqD ?zql ?zqz ?_; (case zqF => k_asm); (case zqN => k_asm); (case zqb => exact Top.nolimit (by k_asm)); (case zqm => k_mem); (case zqD => with_reducible assumption); (case zql => with_reducible assumption); (case zqz => omega); k_whole); intro d' h' o' F' N' l1 lo' hd'; (try k_lt l1))
  k_with "OWN" => (intro p9 hp9; repeat' (first | exact hp9 | refine List.mem_append.mpr (Or.inr ?_) | refine List.mem_cons_of_mem _ ?_))
  k_with "eval Name" => (k_here; first | ((with_reducible refine' nameO_L ?zqF ?zqv ?_ ?zqa ?zqb ?zqc); k_dflt ((case zqF => k_asm); (case zqa => exact rfl); (case zqb => kernel_rfl!); (case zqc => kernel_rfl); (case zqv => first | rfl | assumption); k_whole)) | ((with_reducible refine' nameO_K ?zqF ?zqX ?zqT ?zqe ?_ ?zqa ?zqb ?zqc); k_dflt ((case zqF => k_asm); (case zqX => k_asm); (case zqT => k_asm); (case zqa => exact rfl); (case zqb => kernel_rfl!); (case zqc => kernel_rfl); (case zqe => k_is); k_whole)) | ((with_reducible refine' nameC_L ?zqF ?zqv ?_ ?zqa ?zqb ?zqc); k_dflt ((case zqF => k_asm); (case zqa => exact rfl); (case zqb => kernel_rfl!); (case zqc => kernel_rfl); (case zqv => first | rfl | assumption); k_whole)) | ((with_reducible refine' nameC_K ?zqF ?zqX ?zqT ?zqe ?_ ?zqa ?zqb ?zqc); k_dflt ((case zqF => k_asm); (case zqX => k_asm); (case zqT => k_asm); (case zqa => exact rfl); (case zqb => kernel_rfl!); (case zqc => kernel_rfl); (case zqe => k_is); k_whole)))
  trivial
/-- the items us' are the items us raised from kind i to kind j -/
def Rz (i j : Nat) (us us' : List Value) : Prop := us'.length = us.length ∧ ∀ k, k < us.length → Okv j (us'.getD k .none) ∧ dat (us'.getD k .none) = rzd i j (dat (us.getD k .none))
theorem names_list {w : World} {x d da xd dd ld : Addr} {t1 t2 t3 t4 t5 kt : Tok} {i : Nat} {items av sh lo : Value} {n1 : Nat} {o ex ed el : Obj} {kvs : List (Str × Value)} (hi : i < 3) (hDr : Dr w av da o kvs xd dd ld ex ed el) : Tells w 3 221 [.ref x] [(x, instObj 113 d), (d, dictOf (vd w.params t1 t2 t3 t4 t5 (.str (kS i) kt) items av sh lo) n1), (da, o), (xd, ex), (dd, ed), (ld, el)] [] (Gives [(x, instObj 113 d), (d, dictOf (vd w.params t1 t2 t3 t4 t5 (.str (kS i) kt) items av sh lo) n1), (da, o), (xd, ex), (dd, ed), (ld, el)] fun P => P .none [] ∧ ∀ l n, ∀ us : List Value, us.length ≤ 600 → P (.ref l) [(l, listOf us.toArray n)]) := by
  refine wo ?_
  simp (disch :=
  k_dflt (
  refine wk ?_
  have k1 := (kS_no hi).2.1
  have k2 := (kS_no hi).2.2.1
  rcases hDr with rfl | ⟨rfl, hD, hlo, ⟨hkl, hdn⟩, hc⟩
  · exact weak0 (names_none k1 k2) (by k_extra "SUB") ⟨True.intro, fun P hP => hP.1⟩
  · rcases hc with ⟨h1, h2⟩ | ⟨h1, h2, u1, u2, u3, u4, u5, dkind, datt, dsh, dlo, dn1, nl, us, rfl, rfl, rfl, hl⟩ | ⟨h1, h2, u1, u2, u3, u4, u5, dkind, datt, dsh, dlo, dn1, nl, us, rfl, rfl, rfl, hl⟩
    · exact weak0 (names_bare k1 k2 hD hlo h1 h2) (by k_extra "SUB") ⟨True.intro, fun P hP => hP.1⟩
    · exact weak0 (names_dim k1 k2 hD hlo h1 h2 hl) (by k_extra "SUB") ⟨True.intro, fun P hP => hP.1⟩
    · refine' weakG (names_has (us := us) k1 k2 hD hlo h1 h2 hl) ?s ?r
      case s => k_extra "SUB"
      case r =>
        exact fun l n hA => ⟨_, fun _ z => z, hA, fun P hP => hP.2 l n us hl⟩
  )) only [↓wt]
theorem kwC7_1 : True := by
  k_with "call ref" => (k_here; (with_reducible show wpAny _ _ (call (Value.ref 501) _) _ _ _); k_dflt (refine' tells_call0 (item_tells ?zqhij ?zqhj ?zqhu) ?zqkB ?zqkF ?zqkX ?zqkN ?zqkS ?zqkT ?zqkK ?zqkd ?zqku ?_; k_extra "CA"; (case zqkS => k_extra "SUK"); (case zqhij => assumption); (case zqhj => assumption); (case zqhu => assumption); k_extra "CB"; k_whole; intro v9Z hR9Z h' tk' F' N'; k_extra "CZ"))
  k_with "call ref" => (k_here; (with_reducible show wpAny _ _ (call (Value.ref 221) _) _ _ _); k_dflt (refine' tells_callG (names_list ?zqhi ?zqhDr) ?zqkB ?zqkF ?zqkX ?zqkN ?zqkS ?zqkT ?zqkK ?zqkd ?zqku ?_; k_extra "CA"; (case zqhDr => with_reducible assumption); (case zqkS => k_extra "SUK"); (case zqhi => with_reducible assumption); k_extra "CB"; k_whole; refine And.intro ?_ ?_; (focus (intro h' tk' F' N' A'; k_extra "CE")); rotate_left; (focus (intro l9Z n9Z u9Z hl9Z h' tk' F' N' A'; k_extra "CE")); rotate_left))
  k_with "call ref" => (k_here; (with_reducible show wpAny _ _ (call (Value.ref 113) _) _ _ _); k_dflt (first | (refine' tellsN_callG (vector_new) ?zqkB ?zqkF ?zqkX ?zqkN ?zqkT ?zqkK ?zqkd ?zqku ?_; k_extra "CA"; k_extra "CB"; k_whole; intro x9Z d9Z q91Z q92Z q93Z q94Z q95Z hdx9Z h' tk' F' N' A'; (try simp only [vd, ent] at N'); k_extra "CE") | (refine' tellsN_callG (vector_new3) ?zqkB ?zqkF ?zqkX ?zqkN ?zqkT ?zqkK ?zqkd ?zqku ?_; k_extra "CA"; k_extra "CB"; k_whole; intro x9Z d9Z q91Z q92Z q93Z q94Z q95Z hdx9Z h' tk' F' N' A'; (try simp only [vd, ent] at N'); k_extra "CE")))
  trivial
theorem askind_tells {w : World} {x d da xd dd ld : Addr} {t1 t2 t3 t4 t5 kt : Tok} {i : Nat} {av sh lo : Value} {n1 li n2 : Nat} {us : List Value} {o ex ed el : Obj} {kvs : List (Str × Value)} {t : Tok} {nt : Addr} {j : Nat} (hi : i < 3) (hDr : Dr w av da o kvs xd dd ld ex ed el) (hij : i < j) (hj : j < 3) (hus : ∀ u ∈ us, Okv i u) (hlen : us.length ≤ 1000) :
    Tells w 7 539 [.ref x, .str (kS j) t, .ref nt] [(x, instObj 113 d), (d, dictOf (vd w.params t1 t2 t3 t4 t5 (.str (kS i) kt) (.ref li) av sh lo) n1), (da, o), (xd, ex), (dd, ed), (ld, el), (li, listOf us.toArray n2)] [] (Gives [(x, instObj 113 d), (d, dictOf (vd w.params t1 t2 t3 t4 t5 (.str (kS i) kt) (.ref li) av sh lo) n1), (da, o), (xd, ex), (dd, ed), (ld, el), (li, listOf us.toArray n2)] fun P => ∀ x' d' l' n' n8 at', ∀ us' : List Value, ∀ t1' t2' t3' t4' t5' sh' lo', Rz i j us us' → P (.ref x') [(x', instObj 113 d'), (d', dictOf (vd w.params t1' t2' t3' t4' t5' (.str (kS j) t) (.ref l') at' sh' lo') n8), (l', listOf us'.toArray n')]) := by
  refine wo ?_
  simp (disch :=
  k_dflt (
  refine wk ?_
  have hne : (kS i != kS j) = true := by rcases pairs3 hij hj with ⟨rfl, rfl⟩ | ⟨rfl, rfl⟩ | ⟨rfl, rfl⟩ <;> decide
  refine' tells_cellsP (binds := [(Str.ofString "v", .ref x), (Str.ofString "kind", .str (kS j) t), (Str.ofString "notes", .ref nt)]) ?k1 ?k2 ?k3 ?k4 ?k5 ?k6 ?k7 ?k8 ?k9 ?_
  case k1 => k_is
  case k2 => k_is
  case k3 => first | exact fun s _ => BindsTo.of_eq rfl | exact fun s X => binds_K X rfl (by k_is) rfl rfl rfl
  case k4 => exact rfl
  case k5 => decide +kernel
  case k6 => rfl
  case k7 => rfl
  case k8 => rfl
  case k9 => decide
  intro p loose mean mg mb dp un gd cn cs L a ccd cl outer base g L' s cells Pq B F K N Y l1 T hdp hun hPq e9 A9
  k_cells Y
  (try simp only [List.cons_append, List.nil_append] at N)
  (try dsimp only)
  repeat' ((fail_if_success (with_reducible show wpAny _ _ (exec (Stmt.Assign _ (Expr.ListComp _ _ _ _) _) _) _ _ _)); k_extra "S0"; k_extra "S1")
  k_dflt (refine LCg.Assign_ListComp_U (F₀ := by k_asm) (by rfl) (by with_unfolding_all rfl) (by with_unfolding_all rfl) (by decide) (by rfl) (by decide) (by rfl) (by rfl) (by rfl) ?_)
  repeat' ((fail_if_success (with_reducible show LCg.CompSrc _ _ _ _ _ _ _ _ _ _ _ _ _ _)); k_extra "S0"; k_extra "S1")
  refine LCg.CompSrc.ledger (by rfl) (by k_asm) (by k_asm) (by k_mem) (by rw [List.size_toArray, sizeLine_eq]; omega) ?_
  intro g9
  refine cmp_rest (fun q v => Okv j v ∧ dat v = rzd i j (dat (us.getD q .none))) ?turn ?fin
  case turn =>
    intro q v I oI C oC D m₂ ys h tk E' hq hv hC hx F₁ N₁ off ne
    have hv1 : us.getD q .none = v := by
      have hv2 : us[q]? = some v := by simpa using hv
      simp [hv2]
    have hu : Okv i v := hus v (List.mem_of_getElem? (by simpa using hv))
    rw [hv1]
    repeat' (k_extra "S0"; k_extra "S1")
    ((try dsimp only); refine' cmpP_of ?F ?N ?q1 ?q2 ?q3 ?q4; (case F => k_asm); (case N => k_asm); (case q1 => k_extra "SUB"); (case q2 => assumption); (case q3 => exact .inr ⟨_, by k_mem, rfl, _, rfl⟩); (case q4 => assumption))
  case fin =>
    intro ys hys hG D h tk F₁ N₁ off
    have hRz : Rz i j us ys := ⟨by simpa using hys, fun k hk => hG k (by simpa using hk)⟩
    repeat' (k_extra "S0"; k_extra "S1")
    all_goals ((try dsimp only); exact post_of _ _ rfl (by k_asm) (by k_asm) (by k_extra "SUB") (by k_extra "KEEP") (⟨(by k_extra "APM"), fun P hP => hP _ _ _ _ _ _ _ _ _ _ _ _ _ _ hRz⟩))
  )) only [↓wt]
end
section
open PySem PySem.W PyProof.Rows PySem.Calls
set_option Elab.async false
set_option maxRecDepth 100000 
set_option maxHeartbeats 8000000 
theorem kwC8_0 : True := by
  k_with_none
  k_with "MEM" => first | (with_reducible exact List.mem_cons_self) | ((with_reducible refine List.mem_cons_of_mem _ ?_); k_extra "MEM")
  k_with "ENTER" => (refine' code_defP ?zqk1 ?zqk2 ?zqk3 ?zqk4 ?zqk5 ?zqkA ?zqkF ?zqkK ?zqk6 ?zqk7 ?zqk8 ?zqk9 ?zqkB ?_ ?zqc2 ?zqc3 ?zqc4 ?zqc5; (case zqkA => exact rfl); (case zqkF => exact rfl); (case zqkK => exact rfl); (case zqk1 => k_asm); (case zqk2 => k_asm); (case zqk3 => k_asm); (case zqk4 => k_asm); (case zqk5 => k_asm); (case zqk6 => k_is); (case zqk7 => k_is); (case zqk8 => k_room); (case zqk9 => first | exact BindsTo.of_eq rfl | exact binds_K (by k_in) rfl (by k_is) rfl rfl rfl); (case zqc5 => decide); (case zqkB => exact locs rfl); (case zqc2 => exact rfl); (case zqc3 => exact rfl); (case zqc4 => exact rfl); k_whole; intro g' L' h' Q' FG' F' N' B' X' T' hQ' e9 A9; (try dsimp only); (try k_lift B'); (try k_fold))
  k_with "S0" => ((fail_if_success (with_reducible show Post _ _ _ _ _ _ _ _)); (fail_if_success (with_reducible show LoopP _ _ _ _ _ _ _ _)); (fail_if_success (with_reducible show CmpP _ _ _ _ _ _ _ _ _ _ _ _ _ _ _)))
  k_with "S1" => first | (k_unfold; (try dsimp only)) | (k_end; wrow_close) | walk1 | (with_reducible refine hand (by assumption) ?_; try dsimp only) | (dsimp only; walk1) | (leave1; try dsimp only)
  k_with "ROOM" => first | (refine' room0 ?zqh ?zqe; (case zqh => assumption); (case zqe => exact rfl)) | (refine' room1 ?zqh ?zqe; (case zqh => assumption); (case zqe => exact rfl)) | (refine' room2 ?zqh ?zqe; (case zqh => assumption); (case zqe => exact rfl)) | (refine' room3 ?zqh ?zqe; (case zqh => assumption); (case zqe => exact rfl)) | (refine' roomz ?zqh; (case zqh => assumption)) | ktr_room
  k_with "UNITS" => first | (refine' room0 ?zqh ?zqe; (case zqh => assumption); (case zqe => exact rfl)) | (refine' room1 ?zqh ?zqe; (case zqh => assumption); (case zqe => exact rfl)) | (refine' room2 ?zqh ?zqe; (case zqh => assumption); (case zqe => exact rfl)) | (refine' room3 ?zqh ?zqe; (case zqh => assumption); (case zqe => exact rfl)) | exact lt_num rfl | ktr_units
  k_with "AR" => first | assumption | exact Nat.le_max_right _ _ | exact Nat.le_max_left _ _ | exact Nat.max_lt.mpr ⟨by assumption, by assumption⟩ | (refine' le_up ?zqh ?zqe; (case zqh => assumption); (case zqe => exact rfl)) | omega
  k_with "SUT" => first | exact sub_self | (refine sub_skip ?_; k_extra "SUT")
  k_with "SUB" => first | exact sub_nil | ((with_reducible refine' sub_cons ?zqsm ?_); (case zqsm => k_mem); k_extra "SUB") | k_extra "SUT"
  k_with "SUK" => first | exact sub_nil | k_extra "SUT" | k_extra "SUB"
  k_with "KEEP" => first | (refine keep_hd (List.Mem.head _) ?_; k_extra "KEEP") | exact keep_of (by k_extra "SUK") | ((with_reducible refine' keep_cons ?zqkm ?_); (case zqkm => k_mem); k_extra "KEEP")
  k_with "APQ" => (rename Apart _ _ => h9; first | exact Apart.at h9 (by k_extra "MEM") (by k_extra "MEM") | exact ap_at h9 (by k_extra "MEM") (by k_extra "MEM") | (clear h9; k_extra "APQ"))
  k_with "ANQ" => (rename AllNe _ _ => h9; first | exact AllNe.at h9 (by k_extra "MEM") | exact an_at h9 (by k_extra "MEM") | (clear h9; k_extra "ANQ"))
  k_with "ALQ" => (rename AllLt _ _ => h9; first | exact lt_ne h9 (by k_extra "MEM") | exact lt_en h9 (by k_extra "MEM") | exact lt_ne2 h9 (by assumption) (by k_extra "MEM") | exact lt_en2 h9 (by assumption) (by k_extra "MEM") | (clear h9; k_extra "ALQ"))
  k_with "NEQ" => first | assumption | exact Ne.symm (by assumption) | exact Nat.ne_of_lt (by assumption) | exact Nat.ne_of_gt (by assumption) | k_extra "ALQ" | k_extra "ANQ" | k_extra "APQ" | omega
  k_with "APS" => (rename Apart _ _ => h9; first | exact Apart.subA h9 rfl (by k_extra "SUK") | (clear h9; k_extra "APS"))
  k_with "NE1" => (refine neN ?_; (try dsimp only); k_extra "NEQ")
  k_with "ALL" => first | exact all_nil | (rename AllLt _ _ => h9; exact lt_sub h9 (by k_extra "SUT")) | (refine' all_cons ?zqa ?zqb; (case zqa => k_ne); (case zqb => k_all))
  k_with "ALN" => first | exact ne_nil | (refine ne_cons ?_ ?_; (focus ((try dsimp only); k_extra "NEQ")); k_extra "ALN")
  k_with "APM" => first | exact ap_nil | k_extra "APS" | (refine ap_cons ?_ ?_; (focus k_extra "ALN"); k_extra "APM")
  k_with "CA" => ((case zqkB => k_asm); (case zqkF => k_asm); (case zqkX => k_asm); (case zqkN => k_asm))
  k_with "CB" => ((case zqkT => k_asm); (case zqkK => first | exact rfl | assumption); (case zqkd => k_extra "ROOM"); (case zqku => k_extra "UNITS"))
  k_with "CE" => all_goals ((try ((with_reducible rename News _ _ _ _ => h9); simp only [List.nil_append, List.cons_append] at h9)); (try ((with_reducible rename Apart [] _ => h7); clear h7)); (try dsimp only [Option.getD_some, Option.getD_none]); (try k_sweep); (try k_fold))
  k_with "CZ" => all_goals ((try dsimp only [Option.getD_some, Option.getD_none]); (try k_sweep); (try k_fold))
  k_with "call builtin:len" => (k_here; (with_reducible show wpAny _ _ (call (Value.builtin "len") [Value.ref _]) _ _ _); k_dflt (refine' len_sym ?zqk1 ?zqk2 ?zqk3 ?_; (case zqk1 => k_asm); (case zqk2 => k_mem); (case zqk3 => k_extra "AR"); k_whole))
  k_with "getMethod ref" => (k_here; (with_reducible show wpAny _ _ (getMethod (Value.ref _) (PySem.Str.ofString "get") _) _ _ _); k_dflt (refine' get_method ?zqk1 ?zqk2 ?zqk3 ?_; (case zqk1 => k_asm); (case zqk2 => k_mem); (case zqk3 => with_reducible assumption); k_whole))
  k_with "call builtin:dict.get" => (k_here; (with_reducible show wpAny _ _ (call (Value.builtin "dict.get") [Value.ref _, Value.str _ _]) _ _ _); k_dflt (refine' get_call ?zqk0 ?zqk1 ?zqk2 ?zqk3 ?_; (case zqk1 => k_asm); (case zqk2 => k_mem); (case zqk3 => with_reducible assumption); (case zqk0 => with_reducible assumption); k_whole))
  k_with "LOCA" => first | exact LocArgs.nil | (refine' LocArgs.cons ?zqlk ?zqld ?zqlv ?zqlt; (case zqlk => kernel_rfl!); (case zqld => kernel_rfl); (case zqlv => first | rfl | assumption); (case zqlt => k_extra "LOCA"))
  k_with "eval Call" => (k_here; (with_reducible show wpAny _ _ (eval (Expr.Call (Expr.Name _ _) (Expr.Name _ _ :: _) [] _) _) _ _ _); first | ((with_reducible refine' callO_loc ?zqF ?zqX ?zqT ?zqe ?zqk ?zqa ?zqb ?zqc ?zql ?_); k_dflt ((case zqF => k_asm); (case zqX => k_asm); (case zqT => k_asm); (case zqa => exact rfl); (case zqb => kernel_rfl!); (case zqc => kernel_rfl); (case zqe => k_is); (case zqk => k_is); (case zql => k_extra "LOCA"); k_whole)) | ((with_reducible refine' callC_loc ?zqF ?zqX ?zqT ?zqe ?zqk ?zqa ?zqb ?zqc ?zql ?_); k_dflt ((case zqF => k_asm); (case zqX => k_asm); (case zqT => k_asm); (case zqa => exact rfl); (case zqb => kernel_rfl!); (case zqc => kernel_rfl); (case zqe => k_is); (case zqk => k_is); (case zql => k_extra "LOCA"); k_whole)))
  k_with "eval Attribute Name" => (k_here; (with_reducible refine' attrO_loc ?zqF ?zqv ?zqa ?zqb ?zqc ?_); k_dflt ((case zqF => k_asm); (case zqa => exact rfl); (case zqb => kernel_rfl!); (case zqc => kernel_rfl); (case zqv => first | rfl | assumption); k_whole))
  k_with "ite" => (k_here; first | (k_closed; first | ((with_reducible refine ite_pos ?zqk2 ?_); k_dflt (case zqk2 => decide)) | ((with_reducible refine ite_neg ?zqk2 ?_); k_dflt (case zqk2 => decide))) | (refine' ite_bf ?zqk1 ?_; (case zqk1 => first | assumption | exact decide_eq_false (by omega) | exact beq_eq_false_iff_ne.mpr (by omega))) | (refine' ite_bt ?zqk1 ?_; (case zqk1 => first | assumption | exact decide_eq_true (by omega) | exact beq_iff_eq.mpr (by omega))))
  k_with "call type:dict" => (k_here; (with_reducible show wpAny _ _ (call (Value.type "dict") [Value.ref _]) _ _ _); k_dflt (refine' dict_copyK ?zqF ?zqN ?zqb ?zqm ?zqD ?zql ?zqz ?_; (case zqF => k_asm); (case zqN => k_asm); (case zqb => exact Top.nolimit (by k_asm)); (case zqm => k_mem); (case zqD => with_reducible assumption); (case zql => with_reducible assumption); (case zqz => omega); k_whole); intro d' h' o' F' N' l1 lo' hd'; (try k_lt l1))
  k_with "OWN" => (intro p9 hp9; repeat' (first | exact hp9 | refine List.mem_append.mpr (Or.inr ?_) | refine List.mem_cons_of_mem _ ?_))
  k_with "eval Name" => (k_here; first | ((with_reducible refine' nameO_L ?zqF ?zqv ?_ ?zqa ?zqb ?zqc); k_dflt ((case zqF => k_asm); (case zqa => exact rfl); (case zqb => kernel_rfl!); (case zqc => kernel_rfl); (case zqv => first | rfl | assumption); k_whole)) | ((with_reducible refine' nameO_K ?zqF ?zqX ?zqT ?zqe ?_ ?zqa ?zqb ?zqc); k_dflt ((case zqF => k_asm); (case zqX => k_asm); (case zqT => k_asm); (case zqa => exact rfl); (case zqb => kernel_rfl!); (case zqc => kernel_rfl); (case zqe => k_is); k_whole)) | ((with_reducible refine' nameC_L ?zqF ?zqv ?_ ?zqa ?zqb ?zqc); k_dflt ((case zqF => k_asm); (case zqa => exact rfl); (case zqb => kernel_rfl!); (case zqc => kernel_rfl); (case zqv => first | rfl | assumption); k_whole)) | ((with_reducible refine' nameC_K ?zqF ?zqX ?zqT ?zqe ?_ ?zqa ?zqb ?zqc); k_dflt ((case zqF => k_asm); (case zqX => k_asm); (case zqT => k_asm); (case zqa => exact rfl); (case zqb => kernel_rfl!); (case zqc => kernel_rfl); (case zqe => k_is); k_whole)))
  trivial
theorem kwC8_1 : True := by
  k_with "call ref" => (k_here; (with_reducible show wpAny _ _ (call (Value.ref 539) _) _ _ _); k_dflt (refine' tells_callG (askind_tells ?zqhi ?zqhDr ?zqhij ?zqhj ?zqhus ?zqhlen) ?zqkB ?zqkF ?zqkX ?zqkN ?zqkS ?zqkT ?zqkK ?zqkd ?zqku ?_; k_extra "CA"; (case zqhDr => with_reducible assumption); (case zqkS => k_extra "SUK"); (case zqhi => assumption); (case zqhij => assumption); (case zqhj => assumption); (case zqhus => assumption); (case zqhlen => k_extra "AR"); k_extra "CB"; k_whole; intro x9Z d9Z l9Z n9Z n8Z a9Z u9Z s91Z s92Z s93Z s94Z s95Z s96Z s97Z hRz9Z h' tk' F' N' A'; have hln9 := hRz9Z.1; k_extra "CE"))
  k_with "call ref" => (k_here; (with_reducible show wpAny _ _ (call (Value.ref 113) _) _ _ _); k_dflt (first | (refine' tellsN_callG (vector_new) ?zqkB ?zqkF ?zqkX ?zqkN ?zqkT ?zqkK ?zqkd ?zqku ?_; k_extra "CA"; k_extra "CB"; k_whole; intro x9Z d9Z q91Z q92Z q93Z q94Z q95Z hdx9Z h' tk' F' N' A'; k_extra "CE") | (refine' tellsN_callG (vector_new3) ?zqkB ?zqkF ?zqkX ?zqkN ?zqkT ?zqkK ?zqkd ?zqku ?_; k_extra "CA"; k_extra "CB"; k_whole; intro x9Z d9Z q91Z q92Z q93Z q94Z q95Z hdx9Z h' tk' F' N' A'; k_extra "CE")))
  k_with "call ref" => (k_here; (with_reducible show wpAny _ _ (call (Value.ref 648) _) _ _ _); k_dflt (refine' tells_call0 (listk_tells ?zqhi) ?zqkB ?zqkF ?zqkX ?zqkN ?zqkS ?zqkT ?zqkK ?zqkd ?zqku ?_; k_extra "CA"; (case zqkS => k_extra "SUK"); (case zqhi => assumption); k_extra "CB"; k_whole; intro  h' tk' F' N'; k_extra "CZ"))
  trivial
/-- what a copy of a Vector wears -/
def Wo (w : World) (av : Value) (kvs : List (Str × Value)) (av' : Value) (da' : Addr) (o' : Obj) : Prop := (av = .none ∧ av' = .none) ∨ (av ≠ .none ∧ av' = .ref da' ∧ o'.IsDictOf (strKind PySem.Challenge.rw_pq1344_01.row.prog w) kvs ∧ (da' == sysModules) = false)
theorem kS_ne {i j : Nat} (hij : i < j) (hj : j < 3) : (kS i == kS j) = false := by rcases pairs3 hij hj with ⟨rfl, rfl⟩ | ⟨rfl, rfl⟩ | ⟨rfl, rfl⟩ <;> decide
theorem Rz.refl {i : Nat} {us : List Value} (h : ∀ u ∈ us, Okv i u) : Rz i i us us := by
  refine ⟨rfl, fun k hk => ?_⟩
  have hm : us.getD k .none ∈ us := List.mem_of_getElem? (getD_some hk)
  have ho := h _ hm
  refine ⟨ho, ?_⟩
  generalize us.getD k .none = u at ho
  rcases ho.cases with rfl | ⟨h0, t, rfl⟩ | ⟨h0, t, rfl⟩ | ⟨h0, k, t, rfl, _⟩ | ⟨h0, s, t, rfl⟩ <;> first | rfl | simp [rzd, dat, h0]
theorem conv_lt {w : World} {x d da xd dd ld : Addr} {t1 t2 t3 t4 t5 kt : Tok} {i : Nat} {av sh lo : Value} {n1 li n2 : Nat} {us : List Value} {o ex ed el : Obj} {kvs : List (Str × Value)} {t : Tok} {nt : Addr} {j : Nat} (hi : i < 3) (hDr : Dr w av da o kvs xd dd ld ex ed el) (hij : i < j) (hj : j < 3) (hus : ∀ u ∈ us, Okv i u) (hlen : us.length ≤ 1000) :
    Tells w 8 683 [.ref x, .str (kS j) t, .ref nt] [(x, instObj 113 d), (d, dictOf (vd w.params t1 t2 t3 t4 t5 (.str (kS i) kt) (.ref li) av sh lo) n1), (da, o), (xd, ex), (dd, ed), (ld, el), (li, listOf us.toArray n2)] [] (Gives [(x, instObj 113 d), (d, dictOf (vd w.params t1 t2 t3 t4 t5 (.str (kS i) kt) (.ref li) av sh lo) n1), (da, o), (xd, ex), (dd, ed), (ld, el), (li, listOf us.toArray n2)] fun P => ∀ l' n', ∀ us' : List Value, Rz i j us us' → P (.ref l') [(l', listOf us'.toArray n')]) := by
  refine wo ?_
  simp (disch :=
  k_dflt (
  refine wk ?_
  have hLj : ([Str.ofString "list", Str.ofString "expression", Str.ofString "pairlist"].any fun x => x == kS i) = false := by rcases three hi with rfl | rfl | rfl <;> decide
  have hLk : ([Str.ofString "list", Str.ofString "expression", Str.ofString "pairlist"].any fun x => x == kS j) = false := by rcases three hj with rfl | rfl | rfl <;> decide
  have hne : (kS i == kS j) = false := kS_ne hij hj
  refine' tells_plainP (binds := [(Str.ofString "v", .ref x), (Str.ofString "kind", .str (kS j) t), (Str.ofString "notes", .ref nt)]) ?k1 ?k2 ?k3 ?k4 ?k5 ?k6 ?k7 ?k8 ?k9 ?_
  case k1 => k_is
  case k2 => k_is
  case k3 => exact fun s => BindsTo.of_eq rfl
  case k4 => exact locs rfl
  case k5 => decide
  case k6 => rfl
  case k7 => rfl
  case k8 => rfl
  case k9 => decide
  intro p loose mean mg mb dp un gd cn cs L a ccd cl outer base g L' s Pq B F K N T hdp hun hPq e9 A9
  (try dsimp only)
  repeat' (k_extra "S0"; k_extra "S1")
  ((try dsimp only); exact post_of _ _ rfl (by k_asm) (by k_asm) (by k_extra "SUB") (by k_extra "KEEP") (⟨(by k_extra "APM"), fun P hP => hP _ _ _ (by assumption)⟩))
  )) only [↓wt]
theorem conv_eq {w : World} {x d li : Addr} {t1 t2 t3 t4 t5 kt t : Tok} {i : Nat} {av sh lo : Value} {n1 n2 : Nat} {us : List Value} {nt : Addr} (hi : i < 3) :
    Tells w 8 683 [.ref x, .str (kS i) t, .ref nt] [(x, instObj 113 d), (d, dictOf (vd w.params t1 t2 t3 t4 t5 (.str (kS i) kt) (.ref li) av sh lo) n1), (li, listOf us.toArray n2)] [] (Gives0 fun P => P (.ref li)) := by
  refine wo ?_
  simp (disch :=
  k_dflt (
  refine wk ?_
  have hLj : ([Str.ofString "list", Str.ofString "expression", Str.ofString "pairlist"].any fun x => x == kS i) = false := by rcases three hi with rfl | rfl | rfl <;> decide
  have hee : (kS i == kS i) = true := beq_self_eq_true _
  refine' tells_plainP (binds := [(Str.ofString "v", .ref x), (Str.ofString "kind", .str (kS i) t), (Str.ofString "notes", .ref nt)]) ?k1 ?k2 ?k3 ?k4 ?k5 ?k6 ?k7 ?k8 ?k9 ?_
  case k1 => k_is
  case k2 => k_is
  case k3 => exact fun s => BindsTo.of_eq rfl
  case k4 => exact locs rfl
  case k5 => decide
  case k6 => rfl
  case k7 => rfl
  case k8 => rfl
  case k9 => decide
  intro p loose mean mg mb dp un gd cn cs L a ccd cl outer base g L' s Pq B F K N T hdp hun hPq e9 A9
  (try dsimp only)
  repeat' (k_extra "S0"; k_extra "S1")
  ((try dsimp only); refine' post_of [] _ rfl ?F ?N ?h1 ?h2 ?h3; (case F => k_asm); (case N => k_asm); (case h1 => k_extra "SUB"); (case h2 => k_extra "KEEP"); (case h3 => exact gives0 fun P hP => hP))
  )) only [↓wt]
theorem kwC8_2 : True := by
  k_with "call ref" => (k_here; (with_reducible show wpAny _ _ (call (Value.ref 683) _) _ _ _); k_dflt (refine' tells_callG (conv_lt ?zqhi ?zqhDr ?zqhij ?zqhj ?zqhus ?zqhlen) ?zqkB ?zqkF ?zqkX ?zqkN ?zqkS ?zqkT ?zqkK ?zqkd ?zqku ?_; k_extra "CA"; (case zqhDr => with_reducible assumption); (case zqkS => k_extra "SUK"); (case zqhi => assumption); (case zqhij => assumption); (case zqhj => assumption); (case zqhus => assumption); (case zqhlen => k_extra "AR"); k_extra "CB"; k_whole; intro l9Z n9Z u9Z hRz9Z h' tk' F' N' A'; have hln9 := hRz9Z.1; k_extra "CE"))
  trivial
theorem raised_tells {w : World} {x d da xd dd ld : Addr} {t1 t2 t3 t4 t5 kt : Tok} {i : Nat} {av sh lo : Value} {n1 li n2 : Nat} {us : List Value} {o ex ed el : Obj} {kvs : List (Str × Value)} {t : Tok} {nt : Addr} {j : Nat} (hi : i < 3) (hDr : Dr w av da o kvs xd dd ld ex ed el) (hij : i ≤ j) (hj : j < 3) (hus : ∀ u ∈ us, Okv i u) (hlen : us.length ≤ 1000) (hlo9 : lo = .bool false) :
    Tells w 9 690 [.ref x, .str (kS j) t, .ref nt] [(x, instObj 113 d), (d, dictOf (vd w.params t1 t2 t3 t4 t5 (.str (kS i) kt) (.ref li) av sh lo) n1), (da, o), (xd, ex), (dd, ed), (ld, el), (li, listOf us.toArray n2)] [] (Gives [(x, instObj 113 d), (d, dictOf (vd w.params t1 t2 t3 t4 t5 (.str (kS i) kt) (.ref li) av sh lo) n1), (da, o), (xd, ex), (dd, ed), (ld, el), (li, listOf us.toArray n2)] fun P => ∀ x' d' l' da' n' n8 av' o', ∀ us' : List Value, ∀ s1 s2 s3 s4 s5 s6 s7 t', Rz i j us us' → Wo w av kvs av' da' o' → @Ne Nat x' l' → @Ne Nat d' l' → @Ne Nat da' l' → P (.ref x') [(x', instObj 113 d'), (d', dictOf (vd w.params s1 s2 s3 s4 s5 (.str (kS j) t') (.ref l') av' s6 s7) n8), (l', listOf us'.toArray n'), (da', o')]) := by
  refine wo ?_
  simp (disch :=
  k_dflt (
  refine wk ?_
  subst hlo9
  have hk1 := kS_no hi
  have hk2 := kS_no hj
  obtain ⟨a1, a2, a3, a4, a5, a6⟩ := hk1
  obtain ⟨b1, b2, b3, b4, b5, b6⟩ := hk2
  have hDr' := hDr
  have hLi : ([Str.ofString "list", Str.ofString "expression", Str.ofString "pairlist"].any fun x => x == kS i) = false := by rcases three hi with rfl | rfl | rfl <;> decide
  have hLj : ([Str.ofString "list", Str.ofString "expression", Str.ofString "pairlist"].any fun x => x == kS j) = false := by rcases three hj with rfl | rfl | rfl <;> decide
  rcases Nat.lt_or_eq_of_le hij with hij | rfl
  · have hne : (kS i == kS j) = false := kS_ne hij hj
    rcases hDr with rfl | ⟨rfl, hD, hlo, ⟨hkl, hdn⟩, hc⟩
    · refine' tells_plainP (binds := [(Str.ofString "v", .ref x), (Str.ofString "kind", .str (kS j) t), (Str.ofString "notes", .ref nt)]) ?k1 ?k2 ?k3 ?k4 ?k5 ?k6 ?k7 ?k8 ?k9 ?_
      case k1 => k_is
      case k2 => k_is
      case k3 => exact fun s => BindsTo.of_eq rfl
      case k4 => exact locs rfl
      case k5 => decide
      case k6 => rfl
      case k7 => rfl
      case k8 => rfl
      case k9 => decide
      intro p loose mean mg mb dp un gd cn cs L a ccd cl outer base g L' s Pq B F K N T hdp hun hPq e9 A9
      (try dsimp only)
      repeat' (k_extra "S0"; k_extra "S1")
      ((try dsimp only); exact post_of _ _ rfl (by k_asm) (by k_asm) (by k_extra "SUB") (by k_extra "KEEP") (⟨(by k_extra "APM"), fun P hP => hP _ _ _ _ _ _ _ _ _ _ _ _ _ _ _ _ _ (by first | assumption | exact Rz.refl (by assumption)) (.inl ⟨rfl, rfl⟩) (by k_extra "NEQ") (by k_extra "NEQ") (by k_extra "NEQ")⟩))
    · refine' tells_plainP (binds := [(Str.ofString "v", .ref x), (Str.ofString "kind", .str (kS j) t), (Str.ofString "notes", .ref nt)]) ?k1 ?k2 ?k3 ?k4 ?k5 ?k6 ?k7 ?k8 ?k9 ?_
      case k1 => k_is
      case k2 => k_is
      case k3 => exact fun s => BindsTo.of_eq rfl
      case k4 => exact locs rfl
      case k5 => decide
      case k6 => rfl
      case k7 => rfl
      case k8 => rfl
      case k9 => decide
      intro p loose mean mg mb dp un gd cn cs L a ccd cl outer base g L' s Pq B F K N T hdp hun hPq e9 A9
      (try dsimp only)
      repeat' (k_extra "S0"; k_extra "S1")
      ((try dsimp only); exact post_of _ _ rfl (by k_asm) (by k_asm) (by k_extra "SUB") (by k_extra "KEEP") (⟨(by k_extra "APM"), fun P hP => hP _ _ _ _ _ _ _ _ _ _ _ _ _ _ _ _ _ (by first | assumption | exact Rz.refl (by assumption)) (.inr ⟨by simp, rfl, by assumption, by assumption⟩) (by k_extra "NEQ") (by k_extra "NEQ") (by k_extra "NEQ")⟩))
  · have hee : (kS i == kS i) = true := beq_self_eq_true _
    rcases hDr with rfl | ⟨rfl, hD, hlo, ⟨hkl, hdn⟩, hc⟩
    · refine' tells_plainP (binds := [(Str.ofString "v", .ref x), (Str.ofString "kind", .str (kS i) t), (Str.ofString "notes", .ref nt)]) ?k1 ?k2 ?k3 ?k4 ?k5 ?k6 ?k7 ?k8 ?k9 ?_
      case k1 => k_is
      case k2 => k_is
      case k3 => exact fun s => BindsTo.of_eq rfl
      case k4 => exact locs rfl
      case k5 => decide
      case k6 => rfl
      case k7 => rfl
      case k8 => rfl
      case k9 => decide
      intro p loose mean mg mb dp un gd cn cs L a ccd cl outer base g L' s Pq B F K N T hdp hun hPq e9 A9
      (try dsimp only)
      repeat' (k_extra "S0"; k_extra "S1")
      ((try dsimp only); exact post_of _ _ rfl (by k_asm) (by k_asm) (by k_extra "SUB") (by k_extra "KEEP") (⟨(by k_extra "APM"), fun P hP => hP _ _ _ _ _ _ _ _ _ _ _ _ _ _ _ _ _ (by first | assumption | exact Rz.refl (by assumption)) (.inl ⟨rfl, rfl⟩) (by k_extra "NEQ") (by k_extra "NEQ") (by k_extra "NEQ")⟩))
    · refine' tells_plainP (binds := [(Str.ofString "v", .ref x), (Str.ofString "kind", .str (kS i) t), (Str.ofString "notes", .ref nt)]) ?k1 ?k2 ?k3 ?k4 ?k5 ?k6 ?k7 ?k8 ?k9 ?_
      case k1 => k_is
      case k2 => k_is
      case k3 => exact fun s => BindsTo.of_eq rfl
      case k4 => exact locs rfl
      case k5 => decide
      case k6 => rfl
      case k7 => rfl
      case k8 => rfl
      case k9 => decide
      intro p loose mean mg mb dp un gd cn cs L a ccd cl outer base g L' s Pq B F K N T hdp hun hPq e9 A9
      (try dsimp only)
      repeat' (k_extra "S0"; k_extra "S1")
      ((try dsimp only); exact post_of _ _ rfl (by k_asm) (by k_asm) (by k_extra "SUB") (by k_extra "KEEP") (⟨(by k_extra "APM"), fun P hP => hP _ _ _ _ _ _ _ _ _ _ _ _ _ _ _ _ _ (by first | assumption | exact Rz.refl (by assumption)) (.inr ⟨by simp, rfl, by assumption, by assumption⟩) (by k_extra "NEQ") (by k_extra "NEQ") (by k_extra "NEQ")⟩))
  )) only [↓wt]
end
section
open PySem PySem.W PyProof.Rows PySem.Calls
set_option Elab.async false
set_option maxRecDepth 100000 
set_option maxHeartbeats 8000000 
theorem kwC9_0 : True := by
  k_with_none
  k_with "MEM" => first | (with_reducible exact List.mem_cons_self) | ((with_reducible refine List.mem_cons_of_mem _ ?_); k_extra "MEM")
  k_with "ENTER" => (refine' code_defP ?zqk1 ?zqk2 ?zqk3 ?zqk4 ?zqk5 ?zqkA ?zqkF ?zqkK ?zqk6 ?zqk7 ?zqk8 ?zqk9 ?zqkB ?_ ?zqc2 ?zqc3 ?zqc4 ?zqc5; (case zqkA => exact rfl); (case zqkF => exact rfl); (case zqkK => exact rfl); (case zqk1 => k_asm); (case zqk2 => k_asm); (case zqk3 => k_asm); (case zqk4 => k_asm); (case zqk5 => k_asm); (case zqk6 => k_is); (case zqk7 => k_is); (case zqk8 => k_room); (case zqk9 => first | exact BindsTo.of_eq rfl | exact binds_K (by k_in) rfl (by k_is) rfl rfl rfl); (case zqc5 => decide); (case zqkB => exact locs rfl); (case zqc2 => exact rfl); (case zqc3 => exact rfl); (case zqc4 => exact rfl); k_whole; intro g' L' h' Q' FG' F' N' B' X' T' hQ' e9 A9; (try dsimp only); (try k_lift B'); (try k_fold))
  k_with "S0" => ((fail_if_success (with_reducible show Post _ _ _ _ _ _ _ _)); (fail_if_success (with_reducible show LoopP _ _ _ _ _ _ _ _)); (fail_if_success (with_reducible show CmpP _ _ _ _ _ _ _ _ _ _ _ _ _ _ _)))
  k_with "S1" => first | (k_unfold; (try dsimp only)) | (k_end; wrow_close) | walk1 | (with_reducible refine hand (by assumption) ?_; try dsimp only) | (dsimp only; walk1) | (leave1; try dsimp only)
  k_with "ROOM" => first | (refine' room0 ?zqh ?zqe; (case zqh => assumption); (case zqe => exact rfl)) | (refine' room1 ?zqh ?zqe; (case zqh => assumption); (case zqe => exact rfl)) | (refine' room2 ?zqh ?zqe; (case zqh => assumption); (case zqe => exact rfl)) | (refine' room3 ?zqh ?zqe; (case zqh => assumption); (case zqe => exact rfl)) | (refine' roomz ?zqh; (case zqh => assumption)) | ktr_room
  k_with "UNITS" => first | (refine' room0 ?zqh ?zqe; (case zqh => assumption); (case zqe => exact rfl)) | (refine' room1 ?zqh ?zqe; (case zqh => assumption); (case zqe => exact rfl)) | (refine' room2 ?zqh ?zqe; (case zqh => assumption); (case zqe => exact rfl)) | (refine' room3 ?zqh ?zqe; (case zqh => assumption); (case zqe => exact rfl)) | exact lt_num rfl | ktr_units
  k_with "AR" => first | assumption | exact Nat.le_max_right _ _ | exact Nat.le_max_left _ _ | exact Nat.max_lt.mpr ⟨by assumption, by assumption⟩ | (refine' le_up ?zqh ?zqe; (case zqh => assumption); (case zqe => exact rfl)) | omega
  k_with "SUT" => first | exact sub_self | (refine sub_skip ?_; k_extra "SUT")
  k_with "SUB" => first | exact sub_nil | ((with_reducible refine' sub_cons ?zqsm ?_); (case zqsm => k_mem); k_extra "SUB") | k_extra "SUT"
  k_with "SUK" => first | exact sub_nil | k_extra "SUT" | k_extra "SUB"
  k_with "KEEP" => first | (refine keep_hd (List.Mem.head _) ?_; k_extra "KEEP") | exact keep_of (by k_extra "SUK") | ((with_reducible refine' keep_cons ?zqkm ?_); (case zqkm => k_mem); k_extra "KEEP")
  k_with "APQ" => (rename Apart _ _ => h9; first | exact Apart.at h9 (by k_extra "MEM") (by k_extra "MEM") | exact ap_at h9 (by k_extra "MEM") (by k_extra "MEM") | (clear h9; k_extra "APQ"))
  k_with "ANQ" => (rename AllNe _ _ => h9; first | exact AllNe.at h9 (by k_extra "MEM") | exact an_at h9 (by k_extra "MEM") | (clear h9; k_extra "ANQ"))
  k_with "ALQ" => (rename AllLt _ _ => h9; first | exact lt_ne h9 (by k_extra "MEM") | exact lt_en h9 (by k_extra "MEM") | exact lt_ne2 h9 (by assumption) (by k_extra "MEM") | exact lt_en2 h9 (by assumption) (by k_extra "MEM") | (clear h9; k_extra "ALQ"))
  k_with "NEQ" => first | assumption | exact Ne.symm (by assumption) | exact Nat.ne_of_lt (by assumption) | exact Nat.ne_of_gt (by assumption) | k_extra "ALQ" | k_extra "ANQ" | k_extra "APQ" | omega
  k_with "APS" => (rename Apart _ _ => h9; first | exact Apart.subA h9 rfl (by k_extra "SUK") | (clear h9; k_extra "APS"))
  k_with "NE1" => (refine neN ?_; (try dsimp only); k_extra "NEQ")
  k_with "ALL" => first | exact all_nil | (rename AllLt _ _ => h9; exact lt_sub h9 (by k_extra "SUT")) | (refine' all_cons ?zqa ?zqb; (case zqa => k_ne); (case zqb => k_all))
  k_with "ALN" => first | exact ne_nil | (refine ne_cons ?_ ?_; (focus ((try dsimp only); k_extra "NEQ")); k_extra "ALN")
  k_with "APM" => first | exact ap_nil | k_extra "APS" | (refine ap_cons ?_ ?_; (focus k_extra "ALN"); k_extra "APM")
  k_with "CA" => ((case zqkB => k_asm); (case zqkF => k_asm); (case zqkX => k_asm); (case zqkN => k_asm))
  k_with "CB" => ((case zqkT => k_asm); (case zqkK => first | exact rfl | assumption); (case zqkd => k_extra "ROOM"); (case zqku => k_extra "UNITS"))
  k_with "CE" => all_goals ((try ((with_reducible rename News _ _ _ _ => h9); simp only [List.nil_append, List.cons_append] at h9)); (try ((with_reducible rename Apart [] _ => h7); clear h7)); (try dsimp only [Option.getD_some, Option.getD_none]); (try k_sweep); (try k_fold))
  k_with "CZ" => all_goals ((try dsimp only [Option.getD_some, Option.getD_none]); (try k_sweep); (try k_fold))
  k_with "call builtin:len" => (k_here; (with_reducible show wpAny _ _ (call (Value.builtin "len") [Value.ref _]) _ _ _); k_dflt (refine' len_sym ?zqk1 ?zqk2 ?zqk3 ?_; (case zqk1 => k_asm); (case zqk2 => k_mem); (case zqk3 => k_extra "AR"); k_whole))
  k_with "getMethod ref" => (k_here; (with_reducible show wpAny _ _ (getMethod (Value.ref _) (PySem.Str.ofString "get") _) _ _ _); k_dflt (refine' get_method ?zqk1 ?zqk2 ?zqk3 ?_; (case zqk1 => k_asm); (case zqk2 => k_mem); (case zqk3 => with_reducible assumption); k_whole))
  k_with "call builtin:dict.get" => (k_here; (with_reducible show wpAny _ _ (call (Value.builtin "dict.get") [Value.ref _, Value.str _ _]) _ _ _); k_dflt (refine' get_call ?zqk0 ?zqk1 ?zqk2 ?zqk3 ?_; (case zqk1 => k_asm); (case zqk2 => k_mem); (case zqk3 => with_reducible assumption); (case zqk0 => with_reducible assumption); k_whole))
  k_with "LOCA" => first | exact LocArgs.nil | (refine' LocArgs.cons ?zqlk ?zqld ?zqlv ?zqlt; (case zqlk => kernel_rfl!); (case zqld => kernel_rfl); (case zqlv => first | rfl | assumption); (case zqlt => k_extra "LOCA"))
  k_with "eval Call" => (k_here; (with_reducible show wpAny _ _ (eval (Expr.Call (Expr.Name _ _) (Expr.Name _ _ :: _) [] _) _) _ _ _); first | ((with_reducible refine' callO_loc ?zqF ?zqX ?zqT ?zqe ?zqk ?zqa ?zqb ?zqc ?zql ?_); k_dflt ((case zqF => k_asm); (case zqX => k_asm); (case zqT => k_asm); (case zqa => exact rfl); (case zqb => kernel_rfl!); (case zqc => kernel_rfl); (case zqe => k_is); (case zqk => k_is); (case zql => k_extra "LOCA"); k_whole)) | ((with_reducible refine' callC_loc ?zqF ?zqX ?zqT ?zqe ?zqk ?zqa ?zqb ?zqc ?zql ?_); k_dflt ((case zqF => k_asm); (case zqX => k_asm); (case zqT => k_asm); (case zqa => exact rfl); (case zqb => kernel_rfl!); (case zqc => kernel_rfl); (case zqe => k_is); (case zqk => k_is); (case zql => k_extra "LOCA"); k_whole)))
  k_with "eval Attribute Name" => (k_here; (with_reducible refine' attrO_loc ?zqF ?zqv ?zqa ?zqb ?zqc ?_); k_dflt ((case zqF => k_asm); (case zqa => exact rfl); (case zqb => kernel_rfl!); (case zqc => kernel_rfl); (case zqv => first | rfl | assumption); k_whole))
  k_with "ite" => (k_here; first | (k_closed; first | ((with_reducible refine ite_pos ?zqk2 ?_); k_dflt (case zqk2 => decide)) | ((with_reducible refine ite_neg ?zqk2 ?_); k_dflt (case zqk2 => decide))) | (refine' ite_bf ?zqk1 ?_; (case zqk1 => first | assumption | exact decide_eq_false (by omega) | exact beq_eq_false_iff_ne.mpr (by omega))) | (refine' ite_bt ?zqk1 ?_; (case zqk1 => first | assumption | exact decide_eq_true (by omega) | exact beq_iff_eq.mpr (by omega))))
  k_with "call type:dict" => (k_here; (with_reducible show wpAny _ _ (call (Value.type "dict") [Value.ref _]) _ _ _); k_dflt (refine' dict_copyK ?zqF ?zqN ?zqb ?zqm ?zqD ?zql ?zqz ?_; (case zqF => k_asm); (case zqN => k_asm); (case zqb => exact Top.nolimit (by k_asm)); (case zqm => k_mem); (case zqD => with_reducible assumption); (case zql => with_reducible assumption); (case zqz => omega); k_whole); intro d' h' o' F' N' l1 lo' hd'; (try k_lt l1))
  k_with "OWN" => (intro p9 hp9; repeat' (first | exact hp9 | refine List.mem_append.mpr (Or.inr ?_) | refine List.mem_cons_of_mem _ ?_))
  k_with "eval Name" => (k_here; first | ((with_reducible refine' nameO_L ?zqF ?zqv ?_ ?zqa ?zqb ?zqc); k_dflt ((case zqF => k_asm); (case zqa => exact rfl); (case zqb => kernel_rfl!); (case zqc => kernel_rfl); (case zqv => first | rfl | assumption); k_whole)) | ((with_reducible refine' nameO_K ?zqF ?zqX ?zqT ?zqe ?_ ?zqa ?zqb ?zqc); k_dflt ((case zqF => k_asm); (case zqX => k_asm); (case zqT => k_asm); (case zqa => exact rfl); (case zqb => kernel_rfl!); (case zqc => kernel_rfl); (case zqe => k_is); k_whole)) | ((with_reducible refine' nameC_L ?zqF ?zqv ?_ ?zqa ?zqb ?zqc); k_dflt ((case zqF => k_asm); (case zqa => exact rfl); (case zqb => kernel_rfl!); (case zqc => kernel_rfl); (case zqv => first | rfl | assumption); k_whole)) | ((with_reducible refine' nameC_K ?zqF ?zqX ?zqT ?zqe ?_ ?zqa ?zqb ?zqc); k_dflt ((case zqF => k_asm); (case zqX => k_asm); (case zqT => k_asm); (case zqa => exact rfl); (case zqb => kernel_rfl!); (case zqc => kernel_rfl); (case zqe => k_is); k_whole)))
  trivial
theorem check_tells {w : World} {pl : Addr} {n n3 j : Nat} {ps : List Value} {xv dv lv : Addr} {v1 v2 v3 v4 v5 vt : Tok} {vsh vlo : Value} {m1 m2 : Nat} {ws : List Value} (hI : IntsAre ps (rangeKs 0 n)) (hwl : ws.length ≤ 1000) :
    Tells w 1 725 [.ref pl, .ref xv] [(pl, listOf ps.toArray n3), (xv, instObj 113 dv), (dv, dictOf (vd w.params v1 v2 v3 v4 v5 (.str (kS j) vt) (.ref lv) .none vsh vlo) m1), (lv, listOf ws.toArray m2)] [] (Gives0 fun P => P .none) := by
  refine wo ?_
  simp (disch :=
  k_dflt (
  refine wk ?_
  have hl : ps.length = n := by rw [hI.length, rangeKs_length]
  by_cases hw1 : ws.length > 1
  · refine' tells_plainP (binds := [(Str.ofString "places", .ref pl), (Str.ofString "value", .ref xv)]) ?k1 ?k2 ?k3 ?k4 ?k5 ?k6 ?k7 ?k8 ?k9 ?_
    case k1 => k_is
    case k2 => k_is
    case k3 => exact fun s => BindsTo.of_eq rfl
    case k4 => exact locs rfl
    case k5 => decide
    case k6 => rfl
    case k7 => rfl
    case k8 => rfl
    case k9 => decide
    intro p loose mean mg mb dp un gd cn cs L a ccd cl outer base g L' s Pq B F K N T hdp hun hPq e9 A9
    (try dsimp only)
    repeat' ((fail_if_success (with_reducible show wpAny _ _ (pyIter (Value.ref _)) _ _ _)); k_extra "S0"; k_extra "S1")
    refine' loop_list [(pl, listOf ps.toArray n3), (xv, instObj 113 dv), (dv, dictOf (vd w.params v1 v2 v3 v4 v5 (.str (kS j) vt) (.ref lv) .none vsh vlo) m1), (lv, listOf ws.toArray m2)] (fun i m nx => nx = [(pl, listOf ps.toArray n3), (xv, instObj 113 dv), (dv, dictOf (vd w.params v1 v2 v3 v4 v5 (.str (kS j) vt) (.ref lv) .none vsh vlo) m1), (lv, listOf ws.toArray m2)]) ?hh ?hJ ?F ?N ?s ?j ?turn ?done
    case hh => rfl
    case hJ => rintro i m nx rfl; exact .head _
    case F => k_asm
    case N => k_asm
    case s => k_extra "SUB"
    case j => rfl
    case turn =>
      intro i v m₁ nx h tk own hv ho hJ F₁ N₁
      subst hJ
      have hi : i < n := by rw [← hl]; exact (List.getElem?_eq_some_iff.mp hv).1
      obtain ⟨t, e⟩ := ints_range hI (j := i) (by rw [rangeKs_length]; exact hi)
      rw [hv, rangeKs_at hi] at e
      cases e
      (try dsimp only)
      repeat' (k_extra "S0"; k_extra "S1")
      ((try dsimp only); refine' loopP_next (nx := [(pl, listOf ps.toArray n3), (xv, instObj 113 dv), (dv, dictOf (vd w.params v1 v2 v3 v4 v5 (.str (kS j) vt) (.ref lv) .none vsh vlo) m1), (lv, listOf ws.toArray m2)]) ?e ?F ?N ?J ?A ?q1 ?q2; (case e => first | exact .inl rfl | exact .inr rfl); (case F => k_asm); (case N => k_asm); (case q1 => k_extra "SUB"); (case J => rfl); (case A => exact ho); (case q2 => k_extra "OWN"))
    case done =>
      intro m₁ nx h tk hJ F₁ N₁
      subst hJ
      repeat' (k_extra "S0"; k_extra "S1")
      ((try dsimp only); refine' post_of [] _ rfl ?F ?N ?h1 ?h2 ?h3; (case F => k_asm); (case N => k_asm); (case h1 => k_extra "SUB"); (case h2 => k_extra "KEEP"); (case h3 => exact gives0 fun P hP => hP))
  · refine' tells_plainP (binds := [(Str.ofString "places", .ref pl), (Str.ofString "value", .ref xv)]) ?k1 ?k2 ?k3 ?k4 ?k5 ?k6 ?k7 ?k8 ?k9 ?_
    case k1 => k_is
    case k2 => k_is
    case k3 => exact fun s => BindsTo.of_eq rfl
    case k4 => exact locs rfl
    case k5 => decide
    case k6 => rfl
    case k7 => rfl
    case k8 => rfl
    case k9 => decide
    intro p loose mean mg mb dp un gd cn cs L a ccd cl outer base g L' s Pq B F K N T hdp hun hPq e9 A9
    (try dsimp only)
    repeat' (k_extra "S0"; k_extra "S1")
    ((try dsimp only); refine' post_of [] _ rfl ?F ?N ?h1 ?h2 ?h3; (case F => k_asm); (case N => k_asm); (case h1 => k_extra "SUB"); (case h2 => k_extra "KEEP"); (case h3 => exact gives0 fun P hP => hP))
  )) only [↓wt]
theorem conv_tells {w : World} {t : Tok} {nt : Addr} {j k : Nat} {xv dv lv : Addr} {v1 v2 v3 v4 v5 vt : Tok} {vsh vlo : Value} {m1 m2 : Nat} {ws : List Value} (hj : j < 3) (hjk : j ≤ k) (hk : k < 3) (hws : ∀ u ∈ ws, Okv j u) (hwl : ws.length ≤ 1000) :
    Tells w 8 683 [.ref xv, .str (kS k) t, .ref nt] [(xv, instObj 113 dv), (dv, dictOf (vd w.params v1 v2 v3 v4 v5 (.str (kS j) vt) (.ref lv) .none vsh vlo) m1), (lv, listOf ws.toArray m2)] [] (Gives [(xv, instObj 113 dv), (dv, dictOf (vd w.params v1 v2 v3 v4 v5 (.str (kS j) vt) (.ref lv) .none vsh vlo) m1), (lv, listOf ws.toArray m2)] fun P => (Rz j k ws ws → P (.ref lv) []) ∧ ∀ l' n', ∀ us' : List Value, Rz j k ws us' → P (.ref l') [(l', listOf us'.toArray n')]) := by
  refine wo ?_
  simp (disch :=
  k_dflt (
  refine wk ?_
  rcases Nat.lt_or_eq_of_le hjk with hjk | rfl
  · refine' weakG (conv_lt (x := xv) (da := xv) (o := instObj 113 dv) (xd := xv) (ex := instObj 113 dv) (dd := xv) (ed := instObj 113 dv) (ld := xv) (el := instObj 113 dv) (kvs := []) (av := .none) (us := ws) (li := lv) hj (.inl rfl) hjk hk hws hwl) ?s ?r
    case s => k_extra "SUB"
    case r =>
      intro l' n' us' h3 h4
      refine ⟨_, fun _ z => z, Apart.of fun q hq p hp => h4.all q hq p ?_, fun P hP => hP.2 _ _ _ h3⟩
      revert p
      k_extra "SUB"
  · exact weak0 (conv_eq hj) (by k_extra "SUB") ⟨True.intro, fun P hP => hP.1 (Rz.refl hws)⟩
  )) only [↓wt]
end
section
open PySem PySem.W PyProof.Rows PySem.Calls PySem.Spec
set_option maxRecDepth 100000
section
variable {prog : Program} {w : World} {A : Around} {E : Value → Shared → Prop} {h : Heap} {g : Array GenState} {d : Drawn} {t : Nat} {os : OsState}
variable {nm q : Str} {C N : Addr} {bs bm bmB : List Value} {hdct : Bool} {sn : List Str} {sub : List Value} {ab : Bool} {col : Option Bool} {dd : Option Addr} {k0 k1 k2 k3 k5 : Option Value} {B newId initId : String}
/-- an exception class of the text over another of the text, with an __init__ of its own: the call of the class -/
theorem type_call_initT (F : ExcBaseFacts B newId initId bmB) (T : OwnTail h bmB bm) {mN : Str → Option Value} {rest : List Value} {fI : Addr} {oI : Obj} {Q : Fin → Shared → Prop}
    (hC : h.get? C = some (excClassObj nm q C N bs bm hdct sn sub ab col dd k0 k1 k2 k3 k5 newId)) (hn : h.Ns N mN) (hi : mN "__init__" = some (.ref fI)) (hfI : h.get? fI = some oI) (hfc : oI.cls = .type "function")
    (hq : ∀ h' e, Heap.MadeExcOf h h' e (.ref C) rest → wpAny (model prog w) A (call (.ref fI) (.ref e :: rest)) (fun r s' => r = .none ∧ Q (.done (.ret (.ref e))) s') E ⟨h', g, d, t, os⟩) (hrest : rest.length ≤ sizeLine := by size_fits) :
    wpAny (model prog w) A (Builtin.«type.__call__» ⟨.ref C :: rest, []⟩) Q E ⟨h, g, d, t, os⟩ := by
  refine wo ?_
  simp (disch :=
  k_dflt (
  refine wk ?_
  repeat (first | with_reducible refine wpAny_loadPart_at hC ?_ | with_reducible refine wpAny_madeBy_exc hC ?_ | wp_step)
  refine codeAny_call_builtin_code (Code.quiet_builtin _ F.quiet) (wpAny_check_new_subT F T hC ?_)
  refine codeAny_exc_new_subT F T hC ?_ hrest
  show wpAny _ _ _ _ _ _
  have up : ∀ b o, h.get? b = some o → ((h.push { cls := .type "tuple", data := .seq rest.toArray }).push { cls := .ref C, data := .fields #[.ref h.objs.size, .none, .none, .none, .bool false, .none] }).get? b = some o :=
    fun b o e => Heap.get?_push_of_some _ (Heap.get?_push_of_some _ e)
  have hC₁ := up _ _ hC
  have hfI₁ := up _ _ hfI
  have hn₁ := hn.keeps up
  have hget : ((h.push { cls := .type "tuple", data := .seq rest.toArray }).push { cls := .ref C, data := .fields #[.ref h.objs.size, .none, .none, .none, .bool false, .none] }).get? (h.objs.size + 1) = some
      { cls := .ref C, data := .fields #[.ref h.objs.size, .none, .none, .none, .bool false, .none] } := by heap_get
  have hcC : (Value.ref C :: bm).contains (.ref C) = true := by simp
  have T₁ := T.keeps up
  unfold isInstance
  repeat (first | with_reducible refine wpAny_loadPart_at hget ?_ | (with_reducible refine wpAny_isSubtype_exc hC₁ ?_; rw [hcC]) | wp_step)
  show wpAny _ _ (typeLookup (.ref C) _) _ _ _
  refine wpAny_typeLookup_tail hC₁ hn₁ T₁ F.mroIs F.init.lookup ?_
  rw [hi]
  refine wpAny_holding (wpAny_bind ?_)
  unfold bindSpecial
  refine wpAny_bind (wpAny_typeOf (T := "function") ⟨_, hfI₁, hfc⟩ ?_)
  rw [if_pos (by decide)]
  refine wpAny_pure (wpAny_bind (wpAny_mono (hq _ (h.objs.size + 1) ⟨up, Heap.get?_none_of_le (Nat.le_succ _), h.objs.size, hget, Heap.get?_none_of_le (Nat.le_refl _), ?_⟩) (fun r s' hr => ?_) fun _ _ x => x))
  · exact Heap.get?_push_of_some _ (Heap.get?_push_at rfl rfl)
  · obtain ⟨rfl, hQ⟩ := hr
    wp_walk
    exact hQ
  )) only [↓wt]
theorem call_initT (F : ExcBaseFacts B newId initId bmB) (T : OwnTail h bmB bm) {mN : Str → Option Value} {rest : List Value} {fI : Addr} {oI : Obj} {Q : Value → Shared → Prop}
    (hC : h.get? C = some (excClassObj nm q C N bs bm hdct sn sub ab col dd k0 k1 k2 k3 k5 newId)) (hn : h.Ns N mN) (hi : mN "__init__" = some (.ref fI)) (hfI : h.get? fI = some oI) (hfc : oI.cls = .type "function")
    (hq : ∀ h' e, Heap.MadeExcOf h h' e (.ref C) rest → wpAny (model prog w) (A.under (.builtin "type.__call__" ⟨.ref C :: rest, []⟩)) (call (.ref fI) (.ref e :: rest)) (fun r s' => r = .none ∧ Q (.ref e) s') E ⟨h', g, d, t, os⟩) (hrest : rest.length ≤ sizeLine := by size_fits) :
    wpAny (model prog w) A (call (.ref C) rest) Q E ⟨h, g, d, t, os⟩ := by
  refine wo ?_
  simp (disch :=
  k_dflt (
  refine wk ?_
  have f1 := tc_lookup
  have f2 := tc_bind (.ref C)
  have hT : (⟨h, g, d, t, os⟩ : Shared).TypeIs (.ref C) "type" := ⟨_, hC, rfl⟩
  refine wpAny_call (codeAny_of_tree ?_)
  show wpAny _ _ (callAny (.ref C) _) _ _ _
  repeat (any_goals (first | assumption | with_reducible refine wpAny_loadPart_at hC ?_ | wp_step))
  refine ⟨rfl, ?_⟩
  exact codeAny_call_builtin_at (Code.quiet_builtin _ (by decide +kernel)) entry_typeCall (wpAny_check_type_call_sub hC (type_call_initT (hrest := hrest) F T hC hn hi hfI hfc hq))
  )) only [↓wt]
end
end
section
open PySem PySem.W PyProof.Rows PySem.Calls PySem.Spec PySem.Builtin PySem.Builtin.ObjectAttr
set_option maxRecDepth 100000
section
variable {prog : Program} {w : World} {A : Around} {E : Value → Shared → Prop} {K : Frag} {C e : Addr} {s : Shared} {R : Result → Shared → Prop}
/-- e.name = v, e an exception of a class of the text, without a dict of its own yet -/
theorem exc_osa {ox : Obj} {cd : ClassData} {name : Str} {tk : Tok} {v : Value} (X : K.In s.heap) (I : InstAt s.heap e ox C none) (hd : ox.dict = none) {vs : Array Value} (hda : ox.data = .fields vs) (hcd : clsIn K C = some cd) (hpass : ∀ self, refuseLoop self "__setattr__" cd.mro = pure ()) (hne : cd.mro.isEmpty = false) (hob : cd.mro.contains (.type "object") = true)
    (hdi : cd.hasDict = true) (ht : takerIn K C name = some none)
    (h : ∀ h' D, (∀ b o, b ≠ e → s.heap.get? b = some o → h'.get? b = some o) → h'.get? e = some { ox with dict := some D } → s.heap.get? D = none → h'.get? D = some (dictOf [ent w.params name s.toks v] 1) → R (.ok (.ret .none)) { s with heap := h', toks := s.toks + 1 }) :
    codeAny (model prog w) A (.call (.builtin "object.__setattr__") ⟨[.ref e, .str name tk, v], []⟩) R s := by
  refine wo ?_
  simp (disch :=
  k_dflt (
  refine wk ?_
  have SF := PySem.F.store_object
  have sub : Looks (model prog w) s.heap (isInstance (.ref e) (.type "object")) true := I.type.andThen (looks_mroIn X (by unfold mroIn; rw [hcd, Option.bind_some, if_neg (by rw [hne]; decide), hob]))
  refine codeAny_call_builtin SF.slot.plain SF.entry (@check_slot (model prog w) _ _ s "object.__setattr__" "object" "__setattr__" (.ref e) [.str name tk, v] [] _ SF.kind SF.split sub (SF.args (.ref e) (.str name tk) v) ?_)
  obtain ⟨attr, ha, hr⟩ := Option.bind_eq_some_iff.mp ht
  have hm : Looks (model prog w) s.heap (mroOf (.ref C)) cd.mro := (looks_clsIn X hcd).andThen .now
  have L3 : Looks (model prog w) s.heap (storeTaker? attr) none := by
    cases attr with
    | none => exact .now
    | some a =>
      obtain ⟨b, hb, hr⟩ := Option.map_eq_some_iff.mp hr
      refine (looks_takesIn X hb).andThen ?_
      cases b with
      | true => cases hr
      | false => exact .now
  rw [osa_eq, refuse_eq]
  refine wpAny_bind (wpAny_bind (I.type.here (wpAny_bind (hm.here ?_))))
  rw [hpass]
  refine wpAny_pure (wpAny_bind (I.type.here (wpAny_bind ((looks_findIn X ha).here (wpAny_bind (L3.here ?_))))))
  obtain ⟨hx, hcl, hn, -⟩ := I
  obtain ⟨oc, odi, oda, osl⟩ := ox
  dsimp only at hcl hd hda
  subst hcl hd hda
  refine wpAny_bind (wpAny_pure (wpAny_bind (wpAny_bind (wpAny_loadPart hx (wpAny_bind ((looks_clsIn X hcd).here ?_))))))
  rw [hdi]
  have hx₁ : (s.heap.push { cls := .type "dict", data := .dict #[] }).get? e = some ⟨.ref C, none, .fields vs, osl⟩ := Heap.get?_push_of_some _ hx
  have hxs : e ≠ s.heap.objs.size := Nat.ne_of_lt (Heap.lt_size hx)
  have hD₂ : ((s.heap.push { cls := .type "dict", data := .dict #[] }).update e fun o => { o with dict := some s.heap.objs.size }).get? s.heap.objs.size = some (dictOf [] 0) :=
    (Heap.get?_update_other _ _ hxs).trans (Heap.get?_push_at rfl rfl)
  rw [if_neg (by decide)]
  simp only [Bool.not_true, Bool.false_or, typeHasDict, Bool.false_eq_true, if_false]
  refine wpAny_bind (wpAny_alloc ?_)
  refine wpAny_bind (wpAny_update hx₁ ?_)
  show wpAny _ _ (pure (some s.heap.objs.size)) _ _ _
  refine wpAny_pure ?_
  show wpAny _ _ (storeInDict s.heap.objs.size (.str name tk) name v) _ _ _
  have hE₂ : ((s.heap.push { cls := .type "dict", data := .dict #[] }).update e fun o => { cls := o.cls, dict := some s.heap.objs.size, data := o.data, slots := o.slots }).get? e = some ⟨.ref C, some s.heap.objs.size, .fields vs, osl⟩ := Heap.get?_update_self _ hx₁ rfl
  have hO₂ : ∀ b o, b ≠ e → s.heap.get? b = some o → ((s.heap.push { cls := .type "dict", data := .dict #[] }).update e fun o => { cls := o.cls, dict := some s.heap.objs.size, data := o.data, slots := o.slots }).get? b = some o := fun b o hb e' =>
    (Heap.get?_update_other _ _ (Ne.symm hb)).trans (Heap.get?_push_of_some _ e')
  have hN : s.heap.get? s.heap.objs.size = none := Heap.get?_none_of_le (Nat.le_refl _)
  generalize s.heap.objs.size = D at *
  generalize ((s.heap.push { cls := .type "dict", data := .dict #[] }).update e fun o => { cls := o.cls, dict := some D, data := o.data, slots := o.slots }) = H at *
  unfold storeInDict newKeyGuard
  refine wpAny_bind (wpAny_pure (wpAny_bind ?_))
  unfold nsSet
  refine wpAny_bind (wpAny_bind (wpAny_askSetting (wpAny_pure (wpAny_bind (wpAny_mkText (wpAny_bind (wpAny_loadPart hD₂ ?_)))))))
  dsimp only
  have c : aRefKeyMayBeTheName name #[] = false := by rw [aRefKeyMayBeTheName_at]; simp
  rw [c, if_neg (by decide)]
  have hput : Obj.putName name (PyData.keyHash w.params name) (.str name s.toks) v (dictOf [] 0) = dictOf [ent w.params name s.toks v] 1 := putName_dict name (PyData.keyHash w.params name) (.str name s.toks) v [] 0
  have hD₃ : (H.update D (Obj.putName name (PyData.keyHash w.params name) (.str name s.toks) v)).get? D = some (dictOf [ent w.params name s.toks v] 1) := by
    rw [Heap.get?_update_self _ hD₂ (by rw [hput]; rfl), hput]
  refine wpAny_updatePart hD₂ ?_
  refine wpAny_bind (wpAny_lookBehind (o := dictOf [ent w.params name s.toks v] 1) hD₃ (pastItsLine_dict (by rw [List.size_toArray, sizeLine_eq]; exact Nat.le_of_ble_eq_true rfl)) ?_)
  exact wpAny_pure (h _ D (fun b o hb e' => (Heap.get?_update_other _ _ (fun q => by rw [← q, hN] at e'; cases e')).trans (hO₂ b o hb e')) ((Heap.get?_update_other _ _ (fun q => hxs q.symm)).trans hE₂) hN hD₃)
  )) only [↓wt]
/-- e.name = v -/
theorem exc_set {E : Value → Shared → Prop} {ox : Obj} {cd : ClassData} {name : Str} {v : Value} {Q : Unit → Shared → Prop} (X : K.In s.heap) (hx : s.heap.get? e = some ox) (hcl : ox.cls = .ref C) (hd : ox.dict = none) {vs : Array Value} (hda : ox.data = .fields vs) (hcd : clsIn K C = some cd) (hpass : ∀ self, refuseLoop self "__setattr__" cd.mro = pure ()) (hne : cd.mro.isEmpty = false) (hob : cd.mro.contains (.type "object") = true)
    (hdi : cd.hasDict = true) (ht : takerIn K C name = some none) (hs : findIn K (.ref C) "__setattr__" = some (some (.builtin "object.__setattr__")))
    (h : ∀ h' D tk, (∀ b o, b ≠ e → s.heap.get? b = some o → h'.get? b = some o) → h'.get? e = some { ox with dict := some D } → s.heap.get? D = none → h'.get? D = some (dictOf [ent w.params name tk v] 1) → Q () { s with heap := h', toks := s.toks + 2 }) :
    wpAny (model prog w) A (setAttr (.ref e) name v) Q E s := by
  have I : InstAt s.heap e ox C none := ⟨hx, hcl, by obtain ⟨_, _, _, _⟩ := ox; cases hda; rfl, by rw [hd]; trivial⟩
  exact set_plain X I hs (exc_osa (s := { s with toks := s.toks + 1 }) X I hd hda hcd hpass hne hob hdi ht fun h' D a b c d => h h' D _ a b c d)
/-- what stands but for e, and what is new -/
theorem exc_setK {E : Value → Shared → Prop} {ox : Obj} {cd : ClassData} {name : Str} {v : Value} {Q : Unit → Shared → Prop} {h₀ : Heap} {L : Addr} {m : Str → Option Value} {news : List (Addr × Obj)} {g : Obj → List (Addr × Obj)} (F : Fr h₀ L s.heap m) (X₀ : K.In h₀) (N : News h₀ L s.heap news) (U : UpdF e ox news g)
    (hcl : ox.cls = .ref C) (hd : ox.dict = none) {vs : Array Value} (hda : ox.data = .fields vs) (hcd : clsIn K C = some cd) (hpass : ∀ self, refuseLoop self "__setattr__" cd.mro = pure ()) (hne : cd.mro.isEmpty = false) (hob : cd.mro.contains (.type "object") = true)
    (hdi : cd.hasDict = true) (ht : takerIn K C name = some none) (hs : findIn K (.ref C) "__setattr__" = some (some (.builtin "object.__setattr__")))
    (h : ∀ h' D tk, Fr h₀ L h' m → News h₀ L h' ((D, dictOf [ent w.params name tk v] 1) :: g { ox with dict := some D }) → (∀ p ∈ news, p.1 ≠ D) → Q () { s with heap := h', toks := s.toks + 2 }) :
    wpAny (model prog w) A (setAttr (.ref e) name v) Q E s := by
  refine wo ?_
  simp (disch :=
  k_dflt (
  refine wk ?_
  obtain ⟨own, rest, rfl, hg, h1, h2⟩ := U.split
  have hm : (e, ox) ∈ own ++ (e, ox) :: rest := List.mem_append.mpr (.inr (.head _))
  obtain ⟨ho, hL, h0⟩ := N _ hm
  refine exc_set (X₀.keeps F.keep) ho hcl hd hda hcd hpass hne hob hdi ht hs fun h' D tk k1 k2 k3 k4 => ?_
  obtain ⟨oL, a1, a2, hLo, a3⟩ := F.ns
  have F' : Fr h₀ L h' m := ⟨⟨oL, a1, a2, k1 L oL (fun q => hL q.symm) hLo, a3⟩, fun b o q => k1 b o (fun z => by rw [z, h0] at q; cases q) (F.keep b o q), F.above⟩
  have hDL : D ≠ L := fun z => by rw [z, hLo] at k3; cases k3
  have hD0 : h₀.get? D = none := by
    cases z : h₀.get? D with
    | none => rfl
    | some o => rw [F.keep _ _ z] at k3; cases k3
  refine h h' D tk F' (fun q hq => ?_) (fresh_ne N k3)
  rcases List.mem_cons.mp hq with rfl | hq
  · exact ⟨k4, hDL, hD0⟩
  · rw [hg] at hq
    rcases List.mem_append.mp hq with hq | hq
    · have z := N q (List.mem_append.mpr (.inl hq)); exact ⟨k1 _ _ (h1 q hq) z.1, z.2⟩
    · rcases List.mem_cons.mp hq with rfl | hq
      · exact ⟨k2, hL, h0⟩
      · have z := N q (List.mem_append.mpr (.inr (.tail _ hq))); exact ⟨k1 _ _ (h2 q hq) z.1, z.2⟩
  )) only [↓wt]
end
end
section
open PySem PySem.W PyProof.Rows PySem.Calls
set_option Elab.async false
set_option maxRecDepth 100000 
set_option maxHeartbeats 8000000 
theorem kwE3_0 : True := by
  k_with_none
  k_with "MEM" => first | (with_reducible exact List.mem_cons_self) | ((with_reducible refine List.mem_cons_of_mem _ ?_); k_extra "MEM")
  k_with "ENTER" => (refine' code_defP ?zqk1 ?zqk2 ?zqk3 ?zqk4 ?zqk5 ?zqkA ?zqkF ?zqkK ?zqk6 ?zqk7 ?zqk8 ?zqk9 ?zqkB ?_ ?zqc2 ?zqc3 ?zqc4 ?zqc5; (case zqkA => exact rfl); (case zqkF => exact rfl); (case zqkK => exact rfl); (case zqk1 => k_asm); (case zqk2 => k_asm); (case zqk3 => k_asm); (case zqk4 => k_asm); (case zqk5 => k_asm); (case zqk6 => k_is); (case zqk7 => k_is); (case zqk8 => k_room); (case zqk9 => first | exact BindsTo.of_eq rfl | exact binds_K (by k_in) rfl (by k_is) rfl rfl rfl); (case zqc5 => decide); (case zqkB => exact locs rfl); (case zqc2 => exact rfl); (case zqc3 => exact rfl); (case zqc4 => exact rfl); k_whole; intro g' L' h' Q' FG' F' N' B' X' T' hQ' e9 A9; (try dsimp only); (try k_lift B'); (try k_fold))
  k_with "S0" => ((fail_if_success (with_reducible show Post _ _ _ _ _ _ _ _)); (fail_if_success (with_reducible show LoopP _ _ _ _ _ _ _ _)); (fail_if_success (with_reducible show CmpP _ _ _ _ _ _ _ _ _ _ _ _ _ _ _)))
  k_with "S1" => first | (k_unfold; (try dsimp only)) | (k_end; wrow_close) | walk1 | (with_reducible refine hand (by assumption) ?_; try dsimp only) | (dsimp only; walk1) | (leave1; try dsimp only)
  k_with "ROOM" => first | (refine' room0 ?zqh ?zqe; (case zqh => assumption); (case zqe => exact rfl)) | (refine' room1 ?zqh ?zqe; (case zqh => assumption); (case zqe => exact rfl)) | (refine' room2 ?zqh ?zqe; (case zqh => assumption); (case zqe => exact rfl)) | (refine' room3 ?zqh ?zqe; (case zqh => assumption); (case zqe => exact rfl)) | (refine' roomz ?zqh; (case zqh => assumption)) | ktr_room
  k_with "UNITS" => first | (refine' room0 ?zqh ?zqe; (case zqh => assumption); (case zqe => exact rfl)) | (refine' room1 ?zqh ?zqe; (case zqh => assumption); (case zqe => exact rfl)) | (refine' room2 ?zqh ?zqe; (case zqh => assumption); (case zqe => exact rfl)) | (refine' room3 ?zqh ?zqe; (case zqh => assumption); (case zqe => exact rfl)) | exact lt_num rfl | ktr_units
  k_with "AR" => first | assumption | exact Nat.le_max_right _ _ | exact Nat.le_max_left _ _ | exact Nat.max_lt.mpr ⟨by assumption, by assumption⟩ | (refine' le_up ?zqh ?zqe; (case zqh => assumption); (case zqe => exact rfl)) | omega
  k_with "SUT" => first | exact sub_self | (refine sub_skip ?_; k_extra "SUT")
  k_with "SUB" => first | exact sub_nil | ((with_reducible refine' sub_cons ?zqsm ?_); (case zqsm => k_mem); k_extra "SUB") | k_extra "SUT"
  k_with "SUK" => first | exact sub_nil | k_extra "SUT" | k_extra "SUB"
  k_with "KEEP" => first | (refine keep_hd (List.Mem.head _) ?_; k_extra "KEEP") | exact keep_of (by k_extra "SUK") | ((with_reducible refine' keep_cons ?zqkm ?_); (case zqkm => k_mem); k_extra "KEEP")
  k_with "APQ" => (rename Apart _ _ => h9; first | exact Apart.at h9 (by k_extra "MEM") (by k_extra "MEM") | exact ap_at h9 (by k_extra "MEM") (by k_extra "MEM") | (clear h9; k_extra "APQ"))
  k_with "ANQ" => (rename AllNe _ _ => h9; first | exact AllNe.at h9 (by k_extra "MEM") | exact an_at h9 (by k_extra "MEM") | (clear h9; k_extra "ANQ"))
  k_with "ALQ" => (rename AllLt _ _ => h9; first | exact lt_ne h9 (by k_extra "MEM") | exact lt_en h9 (by k_extra "MEM") | exact lt_ne2 h9 (by assumption) (by k_extra "MEM") | exact lt_en2 h9 (by assumption) (by k_extra "MEM") | (clear h9; k_extra "ALQ"))
  k_with "NEQ" => first | assumption | exact Ne.symm (by assumption) | exact Nat.ne_of_lt (by assumption) | exact Nat.ne_of_gt (by assumption) | k_extra "ALQ" | k_extra "ANQ" | k_extra "APQ" | omega
  k_with "APS" => (rename Apart _ _ => h9; first | exact Apart.subA h9 rfl (by k_extra "SUK") | (clear h9; k_extra "APS"))
  k_with "NE1" => (refine neN ?_; (try dsimp only); k_extra "NEQ")
  k_with "ALL" => first | exact all_nil | (rename AllLt _ _ => h9; exact lt_sub h9 (by k_extra "SUT")) | (refine' all_cons ?zqa ?zqb; (case zqa => k_ne); (case zqb => k_all))
  k_with "ALN" => first | exact ne_nil | (refine ne_cons ?_ ?_; (focus ((try dsimp only); k_extra "NEQ")); k_extra "ALN")
  k_with "APM" => first | exact ap_nil | k_extra "APS" | (refine ap_cons ?_ ?_; (focus k_extra "ALN"); k_extra "APM")
  k_with "CA" => ((case zqkB => k_asm); (case zqkF => k_asm); (case zqkX => k_asm); (case zqkN => k_asm))
  k_with "CB" => ((case zqkT => k_asm); (case zqkK => first | exact rfl | assumption); (case zqkd => k_extra "ROOM"); (case zqku => k_extra "UNITS"))
  k_with "CE" => all_goals ((try ((with_reducible rename News _ _ _ _ => h9); simp only [List.nil_append, List.cons_append] at h9)); (try ((with_reducible rename Apart [] _ => h7); clear h7)); (try dsimp only [Option.getD_some, Option.getD_none]); (try k_sweep); (try k_fold))
  k_with "CZ" => all_goals ((try dsimp only [Option.getD_some, Option.getD_none]); (try k_sweep); (try k_fold))
  k_with "call builtin:len" => (k_here; (with_reducible show wpAny _ _ (call (Value.builtin "len") [Value.ref _]) _ _ _); k_dflt (refine' len_sym ?zqk1 ?zqk2 ?zqk3 ?_; (case zqk1 => k_asm); (case zqk2 => k_mem); (case zqk3 => k_extra "AR"); k_whole))
  k_with "getMethod ref" => (k_here; (with_reducible show wpAny _ _ (getMethod (Value.ref _) (PySem.Str.ofString "get") _) _ _ _); k_dflt (refine' get_method ?zqk1 ?zqk2 ?zqk3 ?_; (case zqk1 => k_asm); (case zqk2 => k_mem); (case zqk3 => with_reducible assumption); k_whole))
  k_with "call builtin:dict.get" => (k_here; (with_reducible show wpAny _ _ (call (Value.builtin "dict.get") [Value.ref _, Value.str _ _]) _ _ _); k_dflt (refine' get_call ?zqk0 ?zqk1 ?zqk2 ?zqk3 ?_; (case zqk1 => k_asm); (case zqk2 => k_mem); (case zqk3 => with_reducible assumption); (case zqk0 => with_reducible assumption); k_whole))
  k_with "LOCA" => first | exact LocArgs.nil | (refine' LocArgs.cons ?zqlk ?zqld ?zqlv ?zqlt; (case zqlk => kernel_rfl!); (case zqld => kernel_rfl); (case zqlv => first | rfl | assumption); (case zqlt => k_extra "LOCA"))
  k_with "eval Call" => (k_here; (with_reducible show wpAny _ _ (eval (Expr.Call (Expr.Name _ _) (Expr.Name _ _ :: _) [] _) _) _ _ _); first | ((with_reducible refine' callO_loc ?zqF ?zqX ?zqT ?zqe ?zqk ?zqa ?zqb ?zqc ?zql ?_); k_dflt ((case zqF => k_asm); (case zqX => k_asm); (case zqT => k_asm); (case zqa => exact rfl); (case zqb => kernel_rfl!); (case zqc => kernel_rfl); (case zqe => k_is); (case zqk => k_is); (case zql => k_extra "LOCA"); k_whole)) | ((with_reducible refine' callC_loc ?zqF ?zqX ?zqT ?zqe ?zqk ?zqa ?zqb ?zqc ?zql ?_); k_dflt ((case zqF => k_asm); (case zqX => k_asm); (case zqT => k_asm); (case zqa => exact rfl); (case zqb => kernel_rfl!); (case zqc => kernel_rfl); (case zqe => k_is); (case zqk => k_is); (case zql => k_extra "LOCA"); k_whole)))
  k_with "eval Attribute Name" => (k_here; (with_reducible refine' attrO_loc ?zqF ?zqv ?zqa ?zqb ?zqc ?_); k_dflt ((case zqF => k_asm); (case zqa => exact rfl); (case zqb => kernel_rfl!); (case zqc => kernel_rfl); (case zqv => first | rfl | assumption); k_whole))
  k_with "ite" => (k_here; first | (k_closed; first | ((with_reducible refine ite_pos ?zqk2 ?_); k_dflt (case zqk2 => decide)) | ((with_reducible refine ite_neg ?zqk2 ?_); k_dflt (case zqk2 => decide))) | (refine' ite_bf ?zqk1 ?_; (case zqk1 => first | assumption | exact decide_eq_false (by omega) | exact beq_eq_false_iff_ne.mpr (by omega))) | (refine' ite_bt ?zqk1 ?_; (case zqk1 => first | assumption | exact decide_eq_true (by omega) | exact beq_iff_eq.mpr (by omega))))
  k_with "call type:dict" => (k_here; (with_reducible show wpAny _ _ (call (Value.type "dict") [Value.ref _]) _ _ _); k_dflt (refine' dict_copyK ?zqF ?zqN ?zqb ?zqm ?zqD ?zql ?zqz ?_; (case zqF => k_asm); (case zqN => k_asm); (case zqb => exact Top.nolimit (by k_asm)); (case zqm => k_mem); (case zqD => with_reducible assumption); (case zql => with_reducible assumption); (case zqz => omega); k_whole); intro d' h' o' F' N' l1 lo' hd'; (try k_lt l1))
  k_with "OWN" => (intro p9 hp9; repeat' (first | exact hp9 | refine List.mem_append.mpr (Or.inr ?_) | refine List.mem_cons_of_mem _ ?_))
  k_with "eval Name" => (k_here; first | ((with_reducible refine' nameO_L ?zqF ?zqv ?_ ?zqa ?zqb ?zqc); k_dflt ((case zqF => k_asm); (case zqa => exact rfl); (case zqb => kernel_rfl!); (case zqc => kernel_rfl); (case zqv => first | rfl | assumption); k_whole)) | ((with_reducible refine' nameO_K ?zqF ?zqX ?zqT ?zqe ?_ ?zqa ?zqb ?zqc); k_dflt ((case zqF => k_asm); (case zqX => k_asm); (case zqT => k_asm); (case zqa => exact rfl); (case zqb => kernel_rfl!); (case zqc => kernel_rfl); (case zqe => k_is); k_whole)) | ((with_reducible refine' nameC_L ?zqF ?zqv ?_ ?zqa ?zqb ?zqc); k_dflt ((case zqF => k_asm); (case zqa => exact rfl); (case zqb => kernel_rfl!); (case zqc => kernel_rfl); (case zqv => first | rfl | assumption); k_whole)) | ((with_reducible refine' nameC_K ?zqF ?zqX ?zqT ?zqe ?_ ?zqa ?zqb ?zqc); k_dflt ((case zqF => k_asm); (case zqX => k_asm); (case zqT => k_asm); (case zqa => exact rfl); (case zqb => kernel_rfl!); (case zqc => kernel_rfl); (case zqe => k_is); k_whole)))
  trivial

/-- a Refusal as it is made -/
abbrev exo (t : Addr) (od : Option Addr) : Obj := { cls := .ref 44, dict := od, data := .fields #[.ref t, .none, .none, .none, .bool false, .none] }
theorem pass44 (self : Value) : refuseLoop self (Str.ofString "__setattr__") [.ref 44, .ref 24, .type "Exception", .type "BaseException", .type "object"] = pure () := by
  rw [refuseLoop_ref, refuseLoop_ref]
  exact PySem.F.store_Exception.passes self
theorem init_tells {w : World} {e t0 : Addr} {msg : Str} {tm : Tok} :
    Tells w 1 41 [.ref e, .str msg tm] [(e, exo t0 none)] [e] (fun v new => ∃ o' nw, new = (e, o') :: nw ∧ Apart nw [(e, exo t0 none)] ∧ v = .none ∧ ∃ D tk, o' = exo t0 (some D) ∧ nw = [(D, dictOf [ent w.params (Str.ofString "message") tk (.str msg tm)] 1)]) := by
  refine wo ?_
  simp (disch :=
  k_dflt (
  refine wk ?_
  refine' tells_plainP (binds := [(Str.ofString "self", .ref e), (Str.ofString "message", .str msg tm)]) ?k1 ?k2 ?k3 ?k4 ?k5 ?k6 ?k7 ?k8 ?k9 ?_
  case k1 => k_is
  case k2 => k_is
  case k3 => exact fun s => BindsTo.of_eq rfl
  case k4 => exact locs rfl
  case k5 => decide
  case k6 => rfl
  case k7 => rfl
  case k8 => rfl
  case k9 => decide
  intro p loose mean mg mb dp un gd cn cs L a ccd cl outer base g L' s Pq B F K N T hdp hun hPq e9 A9
  (try dsimp only)
  repeat' ((fail_if_success (with_reducible show wpAny _ _ (setAttr _ _ _) _ _ _)); k_extra "S0"; k_extra "S1")
  refine' exc_setK (K := fragK.heap_1 w.params) (C := 44) (ox := exo t0 none) ?F ?X ?N ?U rfl rfl rfl ?c ?p ?n ?o ?d ?t ?s ?_
  case F => k_asm
  case X => k_asm
  case N => k_asm
  case U => k_updF
  case c => k_is
  case p => exact fun self => pass44 self
  case n => rfl
  case o => decide
  case d => rfl
  case t => k_is
  case s => k_is
  intro h' D tk F' N' hn
  (try dsimp only at N')
  (try k_sweep)
  have hA : Apart [(D, dictOf [ent w.params (Str.ofString "message") tk (.str msg tm)] 1)] [(e, exo t0 none)] := Apart.of fun q hq p hp => by rw [List.mem_singleton.mp hq]; exact hn p hp
  repeat' (k_extra "S0"; k_extra "S1")
  ((try dsimp only); exact post_of _ _ rfl (by k_asm) (by k_asm) (by k_extra "SUB") (by k_extra "KEEP") (⟨_, _, rfl, hA, rfl, _, _, rfl, rfl⟩))
  )) only [↓wt]
end
section
open PySem PySem.W PyProof.Rows PySem.Calls
set_option Elab.async false
set_option maxRecDepth 100000 
set_option maxHeartbeats 8000000 
theorem kwE4_0 : True := by
  k_with_none
  k_with "MEM" => first | (with_reducible exact List.mem_cons_self) | ((with_reducible refine List.mem_cons_of_mem _ ?_); k_extra "MEM")
  k_with "ENTER" => (refine' code_defP ?zqk1 ?zqk2 ?zqk3 ?zqk4 ?zqk5 ?zqkA ?zqkF ?zqkK ?zqk6 ?zqk7 ?zqk8 ?zqk9 ?zqkB ?_ ?zqc2 ?zqc3 ?zqc4 ?zqc5; (case zqkA => exact rfl); (case zqkF => exact rfl); (case zqkK => exact rfl); (case zqk1 => k_asm); (case zqk2 => k_asm); (case zqk3 => k_asm); (case zqk4 => k_asm); (case zqk5 => k_asm); (case zqk6 => k_is); (case zqk7 => k_is); (case zqk8 => k_room); (case zqk9 => first | exact BindsTo.of_eq rfl | exact binds_K (by k_in) rfl (by k_is) rfl rfl rfl); (case zqc5 => decide); (case zqkB => exact locs rfl); (case zqc2 => exact rfl); (case zqc3 => exact rfl); (case zqc4 => exact rfl); k_whole; intro g' L' h' Q' FG' F' N' B' X' T' hQ' e9 A9; (try dsimp only); (try k_lift B'); (try k_fold))
  k_with "S0" => ((fail_if_success (with_reducible show Post _ _ _ _ _ _ _ _)); (fail_if_success (with_reducible show LoopP _ _ _ _ _ _ _ _)); (fail_if_success (with_reducible show CmpP _ _ _ _ _ _ _ _ _ _ _ _ _ _ _)))
  k_with "S1" => first | (k_unfold; (try dsimp only)) | (k_end; wrow_close) | walk1 | (with_reducible refine hand (by assumption) ?_; try dsimp only) | (dsimp only; walk1) | (leave1; try dsimp only)
  k_with "ROOM" => first | (refine' room0 ?zqh ?zqe; (case zqh => assumption); (case zqe => exact rfl)) | (refine' room1 ?zqh ?zqe; (case zqh => assumption); (case zqe => exact rfl)) | (refine' room2 ?zqh ?zqe; (case zqh => assumption); (case zqe => exact rfl)) | (refine' room3 ?zqh ?zqe; (case zqh => assumption); (case zqe => exact rfl)) | (refine' roomz ?zqh; (case zqh => assumption)) | ktr_room
  k_with "UNITS" => first | (refine' room0 ?zqh ?zqe; (case zqh => assumption); (case zqe => exact rfl)) | (refine' room1 ?zqh ?zqe; (case zqh => assumption); (case zqe => exact rfl)) | (refine' room2 ?zqh ?zqe; (case zqh => assumption); (case zqe => exact rfl)) | (refine' room3 ?zqh ?zqe; (case zqh => assumption); (case zqe => exact rfl)) | exact lt_num rfl | ktr_units
  k_with "AR" => first | assumption | exact Nat.le_max_right _ _ | exact Nat.le_max_left _ _ | exact Nat.max_lt.mpr ⟨by assumption, by assumption⟩ | (refine' le_up ?zqh ?zqe; (case zqh => assumption); (case zqe => exact rfl)) | omega
  k_with "SUT" => first | exact sub_self | (refine sub_skip ?_; k_extra "SUT")
  k_with "SUB" => first | exact sub_nil | ((with_reducible refine' sub_cons ?zqsm ?_); (case zqsm => k_mem); k_extra "SUB") | k_extra "SUT"
  k_with "SUK" => first | exact sub_nil | k_extra "SUT" | k_extra "SUB"
  k_with "KEEP" => first | (refine keep_hd (List.Mem.head _) ?_; k_extra "KEEP") | exact keep_of (by k_extra "SUK") | ((with_reducible refine' keep_cons ?zqkm ?_); (case zqkm => k_mem); k_extra "KEEP")
  k_with "APQ" => (rename Apart _ _ => h9; first | exact Apart.at h9 (by k_extra "MEM") (by k_extra "MEM") | exact ap_at h9 (by k_extra "MEM") (by k_extra "MEM") | (clear h9; k_extra "APQ"))
  k_with "ANQ" => (rename AllNe _ _ => h9; first | exact AllNe.at h9 (by k_extra "MEM") | exact an_at h9 (by k_extra "MEM") | (clear h9; k_extra "ANQ"))
  k_with "ALQ" => (rename AllLt _ _ => h9; first | exact lt_ne h9 (by k_extra "MEM") | exact lt_en h9 (by k_extra "MEM") | exact lt_ne2 h9 (by assumption) (by k_extra "MEM") | exact lt_en2 h9 (by assumption) (by k_extra "MEM") | (clear h9; k_extra "ALQ"))
  k_with "NEQ" => first | assumption | exact Ne.symm (by assumption) | exact Nat.ne_of_lt (by assumption) | exact Nat.ne_of_gt (by assumption) | k_extra "ALQ" | k_extra "ANQ" | k_extra "APQ" | omega
  k_with "APS" => (rename Apart _ _ => h9; first | exact Apart.subA h9 rfl (by k_extra "SUK") | (clear h9; k_extra "APS"))
  k_with "NE1" => (refine neN ?_; (try dsimp only); k_extra "NEQ")
  k_with "ALL" => first | exact all_nil | (rename AllLt _ _ => h9; exact lt_sub h9 (by k_extra "SUT")) | (refine' all_cons ?zqa ?zqb; (case zqa => k_ne); (case zqb => k_all))
  k_with "ALN" => first | exact ne_nil | (refine ne_cons ?_ ?_; (focus ((try dsimp only); k_extra "NEQ")); k_extra "ALN")
  k_with "APM" => first | exact ap_nil | k_extra "APS" | (refine ap_cons ?_ ?_; (focus k_extra "ALN"); k_extra "APM")
  k_with "CA" => ((case zqkB => k_asm); (case zqkF => k_asm); (case zqkX => k_asm); (case zqkN => k_asm))
  k_with "CB" => ((case zqkT => k_asm); (case zqkK => first | exact rfl | assumption); (case zqkd => k_extra "ROOM"); (case zqku => k_extra "UNITS"))
  k_with "CE" => all_goals ((try ((with_reducible rename News _ _ _ _ => h9); simp only [List.nil_append, List.cons_append] at h9)); (try ((with_reducible rename Apart [] _ => h7); clear h7)); (try dsimp only [Option.getD_some, Option.getD_none]); (try k_sweep); (try k_fold))
  k_with "CZ" => all_goals ((try dsimp only [Option.getD_some, Option.getD_none]); (try k_sweep); (try k_fold))
  k_with "call builtin:len" => (k_here; (with_reducible show wpAny _ _ (call (Value.builtin "len") [Value.ref _]) _ _ _); k_dflt (refine' len_sym ?zqk1 ?zqk2 ?zqk3 ?_; (case zqk1 => k_asm); (case zqk2 => k_mem); (case zqk3 => k_extra "AR"); k_whole))
  k_with "getMethod ref" => (k_here; (with_reducible show wpAny _ _ (getMethod (Value.ref _) (PySem.Str.ofString "get") _) _ _ _); k_dflt (refine' get_method ?zqk1 ?zqk2 ?zqk3 ?_; (case zqk1 => k_asm); (case zqk2 => k_mem); (case zqk3 => with_reducible assumption); k_whole))
  k_with "call builtin:dict.get" => (k_here; (with_reducible show wpAny _ _ (call (Value.builtin "dict.get") [Value.ref _, Value.str _ _]) _ _ _); k_dflt (refine' get_call ?zqk0 ?zqk1 ?zqk2 ?zqk3 ?_; (case zqk1 => k_asm); (case zqk2 => k_mem); (case zqk3 => with_reducible assumption); (case zqk0 => with_reducible assumption); k_whole))
  k_with "LOCA" => first | exact LocArgs.nil | (refine' LocArgs.cons ?zqlk ?zqld ?zqlv ?zqlt; (case zqlk => kernel_rfl!); (case zqld => kernel_rfl); (case zqlv => first | rfl | assumption); (case zqlt => k_extra "LOCA"))
  k_with "eval Call" => (k_here; (with_reducible show wpAny _ _ (eval (Expr.Call (Expr.Name _ _) (Expr.Name _ _ :: _) [] _) _) _ _ _); first | ((with_reducible refine' callO_loc ?zqF ?zqX ?zqT ?zqe ?zqk ?zqa ?zqb ?zqc ?zql ?_); k_dflt ((case zqF => k_asm); (case zqX => k_asm); (case zqT => k_asm); (case zqa => exact rfl); (case zqb => kernel_rfl!); (case zqc => kernel_rfl); (case zqe => k_is); (case zqk => k_is); (case zql => k_extra "LOCA"); k_whole)) | ((with_reducible refine' callC_loc ?zqF ?zqX ?zqT ?zqe ?zqk ?zqa ?zqb ?zqc ?zql ?_); k_dflt ((case zqF => k_asm); (case zqX => k_asm); (case zqT => k_asm); (case zqa => exact rfl); (case zqb => kernel_rfl!); (case zqc => kernel_rfl); (case zqe => k_is); (case zqk => k_is); (case zql => k_extra "LOCA"); k_whole)))
  k_with "eval Attribute Name" => (k_here; (with_reducible refine' attrO_loc ?zqF ?zqv ?zqa ?zqb ?zqc ?_); k_dflt ((case zqF => k_asm); (case zqa => exact rfl); (case zqb => kernel_rfl!); (case zqc => kernel_rfl); (case zqv => first | rfl | assumption); k_whole))
  k_with "ite" => (k_here; first | (k_closed; first | ((with_reducible refine ite_pos ?zqk2 ?_); k_dflt (case zqk2 => decide)) | ((with_reducible refine ite_neg ?zqk2 ?_); k_dflt (case zqk2 => decide))) | (refine' ite_bf ?zqk1 ?_; (case zqk1 => first | assumption | exact decide_eq_false (by omega) | exact beq_eq_false_iff_ne.mpr (by omega))) | (refine' ite_bt ?zqk1 ?_; (case zqk1 => first | assumption | exact decide_eq_true (by omega) | exact beq_iff_eq.mpr (by omega))))
  k_with "call type:dict" => (k_here; (with_reducible show wpAny _ _ (call (Value.type "dict") [Value.ref _]) _ _ _); k_dflt (refine' dict_copyK ?zqF ?zqN ?zqb ?zqm ?zqD ?zql ?zqz ?_; (case zqF => k_asm); (case zqN => k_asm); (case zqb => exact Top.nolimit (by k_asm)); (case zqm => k_mem); (case zqD => with_reducible assumption); (case zql => with_reducible assumption); (case zqz => omega); k_whole); intro d' h' o' F' N' l1 lo' hd'; (try k_lt l1))
  k_with "OWN" => (intro p9 hp9; repeat' (first | exact hp9 | refine List.mem_append.mpr (Or.inr ?_) | refine List.mem_cons_of_mem _ ?_))
  k_with "eval Name" => (k_here; first | ((with_reducible refine' nameO_L ?zqF ?zqv ?_ ?zqa ?zqb ?zqc); k_dflt ((case zqF => k_asm); (case zqa => exact rfl); (case zqb => kernel_rfl!); (case zqc => kernel_rfl); (case zqv => first | rfl | assumption); k_whole)) | ((with_reducible refine' nameO_K ?zqF ?zqX ?zqT ?zqe ?_ ?zqa ?zqb ?zqc); k_dflt ((case zqF => k_asm); (case zqX => k_asm); (case zqT => k_asm); (case zqa => exact rfl); (case zqb => kernel_rfl!); (case zqc => kernel_rfl); (case zqe => k_is); k_whole)) | ((with_reducible refine' nameC_L ?zqF ?zqv ?_ ?zqa ?zqb ?zqc); k_dflt ((case zqF => k_asm); (case zqa => exact rfl); (case zqb => kernel_rfl!); (case zqc => kernel_rfl); (case zqv => first | rfl | assumption); k_whole)) | ((with_reducible refine' nameC_K ?zqF ?zqX ?zqT ?zqe ?_ ?zqa ?zqb ?zqc); k_dflt ((case zqF => k_asm); (case zqX => k_asm); (case zqT => k_asm); (case zqa => exact rfl); (case zqb => kernel_rfl!); (case zqc => kernel_rfl); (case zqe => k_is); k_whole)))
  trivial

section
variable {M : Model} {A : Around} {E : Value → Shared → Prop} {env : Env}
variable {nm q : Str} {C N : Addr} {bs bm : List Value} {hdct : Bool} {sn : List Str} {sub : List Value} {ab : Bool} {col : Option Bool} {dd : Option Addr} {k0 k1 k2 k3 k5 : Option Value} {newId : String}
theorem raiseStmt_made2 {s : Shared} {x : Sem Value} {Q : Flow → Shared → Prop} (hbase : bm.contains (.type "BaseException") = true) (hh : A.handled = none)
    (h : wpAny M A x (fun v s₁ => ∃ e t D, v = .ref e ∧ s₁.heap.get? C = some (excClassObj nm q C N bs bm hdct sn sub ab col dd k0 k1 k2 k3 k5 newId) ∧
      s₁.heap.get? e = some { cls := .ref C, dict := some D, data := .fields #[.ref t, .none, .none, .none, .bool false, .none] } ∧ E (.ref e) s₁) E s) :
    wpAny M A (raiseStmt env (some x) none) Q E s := by
  refine wo ?_
  simp (disch :=
  k_dflt (
  refine wk ?_
  have hcB : (Value.ref C :: bm).contains (.type "BaseException") = true := by rw [List.contains_cons, hbase, Bool.or_true]
  unfold raiseStmt
  refine wpAny_bind (wpAny_mono h (fun v s₁ h₁ => ?_) fun _ _ x => x)
  obtain ⟨e, t, D, rfl, hC, he, hE⟩ := h₁
  obtain ⟨hp, g, d, tk, os⟩ := s₁
  repeat (first | with_reducible refine wpAny_loadPart_at he ?_ | with_reducible refine wpAny_loadPart_at hC ?_ | (with_reducible refine wpAny_isSubtype_exc hC ?_; rw [hcB]) | wp_step)
  exact wpAny_raiseNew_none hh hE
  )) only [↓wt]
end
theorem ns_some_of {K : Frag} {h : Heap} {N : Addr} {mg : Str → Option Value} {n : Str} {v : Value} (X : K.In h) (G : h.Ns N mg) (e : nsIn K N n = some (some v)) : mg n = some v := by
  obtain ⟨o, es, ep, ho, hd, _, hf⟩ := G
  unfold nsIn at e
  split at e
  · rename_i c d es' n' sl q
    have := X _ _ q
    rw [ho] at this
    cases this
    cases hd
    split at e
    · rename_i en he
      cases e
      rw [← hf]
      unfold nsFind findBy
      rw [← Array.find?_toList, he]
      rfl
    · split at e <;> cases e
  · cases e
theorem nsOk_of {K : Frag} {N : Addr} {c : Value} {d : Option Addr} {es : Array DictEntry} {n : Nat} {sl : Array (Option Value)} (h : K.lookup N = some ⟨c, d, .dict es n, sl⟩) (e : (es.all fun e => match e.key with | .str _ _ => true | _ => false) = true) : nsOkIn K N = true := by
  unfold nsOkIn
  rw [h]
  exact e
theorem raise_refusal {w : World} {p : Program} {loose : List Str} {mean : ExcName → Option Value} {mg mb : Str → Option Value} {dp un : Nat} {gd : Option (List Code)} {cn : Str} {cs : Scope} {a : Addr} {ccd : Value} {cl : List (Str × Addr)} {outer : List Env} {A₀ : Around} {base h₀ : Heap} {L : Addr} {m : Str → Option Value} {s : Shared} {news : List (Addr × Obj)}
    {Q : Flow → Shared → Prop} {E : Value → Shared → Prop} {np cpos cp pos : Pos} {msg : Str} {ck : Nat}
    (B : Below A₀ base outer h₀) (F : Fr h₀ L s.heap m) (X : (fragK.heap_1 w.params).In h₀) (N : News h₀ L s.heap news) (T : Top p loose mean mg mb h₀) (hk : cs.kind = .function) (hx : (envX cn cs L a ccd cl).kindOf (Str.ofString "Refusal") = some .globalImplicit) (hdp : dp + 3 < recursionLimit) (hun : un + 24 < cLine) (hne : nsIn (fragK.heap_1 w.params) mainGlobals (Str.ofString "Refusal") = some (some (.ref 44)))
    (h : ∀ h' e D t0 tk tm tk', (∀ b o, s.heap.get? b = some o → h'.get? b = some o) → s.heap.get? e = none → s.heap.get? D = none → h'.get? e = some (exo t0 (some D)) → h'.get? D = some (dictOf [ent w.params (Str.ofString "message") tk (.str msg tm)] 1) → E (.ref e) { s with heap := h', toks := tk' }) :
    wpAny (model PySem.Challenge.rw_pq1344_01.row.prog w) (ktrTop dp un gd cn cs L a ccd cl outer) (exec (.Raise (some (.Call (.Name (Str.ofString "Refusal") np) [.Constant (.str msg) ck cp] [] cpos)) none pos) (envX cn cs L a ccd cl)) Q E s := by
  refine wo ?_
  simp (disch :=
  k_dflt (
  refine wk ?_
  obtain ⟨nm, q, bs, hdct, sn, sub, ab, col, dd, k0, k1, k2, k3, k5, newId, hC0⟩ : ∃ nm q bs hdct sn sub ab col dd k0 k1 k2 k3 k5 newId, (fragK.heap_1 w.params).lookup 44 = some (excClassObj nm q 44 43 bs [.ref 24, .type "Exception", .type "BaseException", .type "object"] hdct sn sub ab col dd k0 k1 k2 k3 k5 newId) ∧ newId = "Exception.__new__" := ⟨_, _, _, _, _, _, _, _, _, _, _, _, _, _, _, by k_is, rfl⟩
  obtain ⟨hC0, rfl⟩ := hC0
  obtain ⟨c0, dd2, cd2, sl2, hC2, hn2⟩ : ∃ c0 dd2 cd2 sl2, (fragK.heap_1 w.params).lookup 24 = some { cls := c0, dict := dd2, data := .cls cd2, slots := sl2 } ∧ (nsOkIn (fragK.heap_1 w.params) cd2.ns = true ∧ nsIn (fragK.heap_1 w.params) cd2.ns "__init__" = some none) := ⟨_, _, _, _, by k_is, nsOk_of (by k_is) (by simp), by k_is⟩
  have hn44 : nsOkIn (fragK.heap_1 w.params) 43 = true := nsOk_of (by k_is) (by simp)
  have hi44 : nsIn (fragK.heap_1 w.params) 43 "__init__" = some (some (.ref 41)) := by k_is
  obtain ⟨oI, hfI, hfc⟩ : ∃ oI, (fragK.heap_1 w.params).lookup 41 = some oI ∧ oI.cls = .type "function" := ⟨_, by k_is, rfl⟩
  have hT : ∀ h : Heap, (fragK.heap_1 w.params).In h → OwnTail h [.type "Exception", .type "BaseException", .type "object"] [.ref 24, .type "Exception", .type "BaseException", .type "object"] := fun h Y => .own (Y _ _ hC2) (.of_isNs (isNs_of_in Y hn2.1)) (nsMap_none_of_in Y hn2.1 hn2.2) .base
  have Xs := X.keeps F.keep
  rw [arm_exec_Raise]
  refine wpAny_bind (wpAny_standAt (raiseStmt_made2 (C := 44) (nm := nm) (q := q) (N := 43) (bs := bs) (hdct := hdct) (sn := sn) (sub := sub) (ab := ab) (col := col) (dd := dd) (k0 := k0) (k1 := k1) (k2 := k2) (k3 := k3) (k5 := k5) (newId := "Exception.__new__") (bm := [.ref 24, .type "Exception", .type "BaseException", .type "object"]) (by decide) rfl (wpAny_bind (wpAny_mono (wpAny_Call_ofName (nameX_K F X (topRead_of T) hne ?_ hk hx)) (fun v s₃ h₃ => wpAny_bind (wpAny_standAt (wpAny_pure h₃))) fun _ _ x => x))))
  unfold callWith
  show wpAny _ _ (holding _ (evalArgs _ true ((false, eval (.Constant (.str msg) ck cp) (envX cn cs L a ccd cl)) :: []) []) >>= _) _ _ _
  refine wpAny_bind (wpAny_holding (evalArgs_plain (spliced_cons (Constant_str (spliced_nil (wpAny_bind (wpAny_standAt ?_)))))))
  have hplain : (backTo cpos (starEach [.Constant (.str msg) ck cp] (envX cn cs L a ccd cl))).any (·.1) = false := rfl
  simp only [hplain]
  refine wpAny_bind (wpAny_keeperOf_exc (Xs _ _ hC0) ?_)
  refine wpAny_bind (call_initT (C := 44) (fI := 41) PySem.F.excBase_Exception (hT _ Xs) (Xs _ _ hC0) (.of_isNs (isNs_of_in Xs hn44)) (ns_some_of Xs (.of_isNs (isNs_of_in Xs hn44)) hi44) (Xs _ _ hfI) hfc (fun h' e hm => ?_))
  obtain ⟨t0, hte, htn, htt⟩ := hm.there
  have F' : Fr h₀ L h' m := F.keeps hm.keeps
  obtain ⟨oL, _, _, hLo, _⟩ := F.ns
  have hne0 : h₀.get? e = none := by
    cases z : h₀.get? e with
    | none => rfl
    | some o => have := F.keep _ _ z; rw [hm.new] at this; cases this
  have heL : e ≠ L := fun z => by have := hm.new; rw [z, hLo] at this; cases this
  have N' : News h₀ L h' ((e, exo t0 none) :: news) := fun q hq => by
    rcases List.mem_cons.mp hq with rfl | hq
    · exact ⟨hte, heL, hne0⟩
    · exact ⟨hm.keeps _ _ (N q hq).1, (N q hq).2⟩
  show wpAny _ (ktrTop (dp + 1) (un + 1) gd cn cs L a ccd cl outer) _ _ _ _
  refine tells_use (init_tells (t0 := t0)) B F' X N' (fun q hq => by rw [List.mem_singleton.mp hq]; exact .head _) T hk (by omega) (by omega) ?_
  intro r h'' tk' new F'' N'' X'' Y'' hR
  obtain ⟨o', nw, rfl, hA, rfl, D, tk, rfl, rfl⟩ := hR
  have hDe : @Ne Nat e D := hA.at (.head _) (.head _)
  have hD' : h'.get? D = none := Y'' _ (.tail _ (.head _)) fun hq => by
    rcases List.mem_cons.mp hq with q | q
    · exact hDe q.symm
    · cases q
  refine ⟨rfl, wpAny_bind (wpAny_holding (wpAny_point (wpAny_pure ⟨e, t0, D, rfl, (X.keeps F''.keep) _ _ hC0, (N'' _ (.head _)).1, h h'' e D t0 tk s.toks tk' ?_ hm.new ?_ (N'' _ (.head _)).1 (N'' _ (.tail _ (.head _))).1⟩)))⟩
  · intro b o q
    refine X'' b o (fun z => ?_) (hm.keeps _ _ q)
    rw [List.mem_singleton.mp z, hm.new] at q
    cases q
  · cases z : s.heap.get? D with
    | none => rfl
    | some o => rw [hm.keeps _ _ z] at hD'; cases hD'
  )) only [↓wt]
end
section
open PySem PySem.W PyProof.Rows PySem.Calls PySem.Spec
set_option maxRecDepth 100000
/-- e has the dict D -/
def DictIs (h : Heap) (e D : Addr) : Prop := ∃ o, h.get? e = some o ∧ o.dict = some D
theorem dict_mapFields (o : Obj) (f : Array Value → Array Value) : (o.mapFields f).dict = o.dict := by
  obtain ⟨_, _, dt, _⟩ := o
  cases dt <;> rfl
section
variable {M : Model} {A : Around} {E : Value → Shared → Prop} {s : Shared} {base : Heap} {env : Env} {outer : List Env} {L e D : Addr} {cls a0 fl : Value}
/-- a new entry of the traceback: e keeps its dict -/
theorem entryD {oe : Obj} {vs : Array Value} {head : Value} {hadNext : Bool} {Q : Unit → Shared → Prop} (hfr : A.frames = some (env :: outer)) (hl : s.heap.FunFrames base (env :: outer)) (hf : env.frame = some L) (he : s.heap.get? e = some oe)
    (hkb : base.StaysIn s.heap) (hen : base.get? e = none) (hd : oe.data = .fields vs) (hsz : 1 < vs.size) (h0 : vs[0]? = some a0) (hD : oe.dict = some D)
    (h : ∀ h', Heap.NotedW base (env :: outer) e oe.cls a0 (rawInt L) s.heap h' → DictIs h' e D → Q () { s with heap := h' }) :
    wpAny M A (do let a ← frameOf env; let pl ← entryPlaceOf L hadNext; let b ← EntryCells.newEntry head a .none (rawInt L) .none pl; setField (.ref e) 1 b) Q E s := by
  refine wo ?_
  simp (disch :=
  k_dflt (
  refine wk ?_
  have hof : e ∉ (env :: outer).filterMap (·.frame) := fun hm => by
    obtain ⟨_, o, ho, hnf⟩ := hl.mem hm
    rw [he] at ho
    cases ho
    exact hnf vs hd
  refine wpAny_bind (wpAny_frameOf_fun hfr hl hf fun h₁ hs₁ => wpAny_bind (wpAny_entryPlaceOf fun pl hpl => ?_))
  unfold EntryCells.newEntry newFields
  refine wpAny_bind (wpAny_newObj_type ?_ (hpl.sizeOk5 _ _ _ _ _))
  have he₁ : h₁.get? e = some oe := (hs₁.2.1 e hof).trans he
  have kb₁ : base.StaysIn h₁ := fun b o hbo => (hs₁.2.1 b fun hm => by rw [(hl.mem hm).1] at hbo; cases hbo).trans (hkb b o hbo)
  generalize hoT : ({ cls := .type "traceback", dict := none, data := .fields ([head, .ref L, .none, rawInt L, .none] ++ (if pl.isEmpty then List.replicate 6 Value.none else pl)).toArray } : Obj) = oT
  have hoTd : oT.data = .fields ([head, .ref L, .none, rawInt L, .none] ++ (if pl.isEmpty then List.replicate 6 Value.none else pl)).toArray := by rw [← hoT]
  have he₂ := Heap.get?_push_of_some (h := h₁) oT he₁
  refine wpAny_setField he₂ hd hsz (h _ ?_ ?_)
  · have hTe : h₁.objs.size ≠ e := Nat.ne_of_gt (Heap.lt_size he₁)
    have hd₃ := Obj.data_mapFields hd (·.setIfInBounds 1 (Value.ref h₁.objs.size))
    have he₃ := Heap.get?_update_self (Obj.mapFields (·.setIfInBounds 1 (Value.ref h₁.objs.size))) he₂ (Obj.isFreed_of_fields hd₃)
    have hT₃ := (Heap.get?_update_other (h₁.push oT) (Obj.mapFields (·.setIfInBounds 1 (Value.ref h₁.objs.size))) (Ne.symm hTe)).trans (Heap.get?_push_size h₁ (Obj.isFreed_of_fields hoTd))
    have keep : ∀ b o, b ≠ e → h₁.get? b = some o → ((h₁.push oT).update e (Obj.mapFields (·.setIfInBounds 1 (Value.ref h₁.objs.size)))).get? b = some o := fun b o hbe hb => (Heap.get?_update_other _ _ (Ne.symm hbe)).trans (Heap.get?_push_of_some _ hb)
    have noRec : ∀ b o, s.heap.get? b = some o → (∀ vs, o.data ≠ .fields vs) → b ≠ e := fun b o hb hnf q => by
      rw [q, he] at hb
      cases hb
      exact hnf vs hd
    refine ⟨fun b o hbo => keep b o (fun q => by rw [q, hen] at hbo; cases hbo) (kb₁ b o hbo), hl.of_keeps fun b o hb hnf => ?_, ?_, fun b o hb hnf => ?_⟩
    · obtain ⟨sl, hs⟩ := hs₁.2.2 b o hb
      exact ⟨_, keep b _ (noRec b o hb hnf) hs, rfl⟩
    · exact ⟨_, _, h₁.objs.size, _, _, he₃, ⟨Obj.cls_mapFields _ _, by rw [Array.getElem?_setIfInBounds_ne (by decide)]; exact h0⟩, hd₃, by simp [hsz], kb₁.fresh, hTe, hT₃, hoTd, by first | (simp; done) | (rcases hpl with rfl | ⟨_, _, _, _, _, _, _, rfl⟩ <;> simp)⟩
    · obtain ⟨sl, hs⟩ := hs₁.2.2 b o hb
      exact ⟨sl, keep b _ (noRec b o hb hnf) hs⟩
  · have hd₃ := Obj.data_mapFields hd (·.setIfInBounds 1 (Value.ref h₁.objs.size))
    exact ⟨_, Heap.get?_update_self (Obj.mapFields (·.setIfInBounds 1 (Value.ref h₁.objs.size))) he₂ (Obj.isFreed_of_fields hd₃), by rw [dict_mapFields]; exact hD⟩
  )) only [↓wt]
/-- noteFrame, at the first frame and at a later one -/
theorem noteD_first {oe : Obj} {vs : Array Value} {Q : Unit → Shared → Prop} (hfr : A.frames = some (env :: outer)) (hl : s.heap.FunFrames base (env :: outer)) (hf : env.frame = some L) (he : s.heap.get? e = some oe)
    (hkb : base.StaysIn s.heap) (hen : base.get? e = none) (hd : oe.data = .fields vs) (h1 : vs[1]? = some .none) (h0 : vs[0]? = some a0) (hD : oe.dict = some D)
    (h : ∀ h', Heap.NotedW base (env :: outer) e oe.cls a0 (rawInt L) s.heap h' → DictIs h' e D → Q () { s with heap := h' }) : wpAny M A (noteFrame (.ref e) env) Q E s := by
  unfold noteFrame
  simp only [hf]
  refine wpAny_bind (wpAny_field he hd h1 ?_)
  rw [if_neg (by decide)]
  exact entryD hfr hl hf he hkb hen hd (Array.getElem?_eq_some_iff.mp h1).1 h0 hD h
theorem noteD_on {Q : Unit → Shared → Prop} (hfr : A.frames = some (env :: outer)) (hl : s.heap.FunFrames base (env :: outer)) (hf : env.frame = some L) (ht : s.heap.TracedW base e cls a0) (hkb : base.StaysIn s.heap) (hen : base.get? e = none) (hD : DictIs s.heap e D)
    (h : ∀ h', Heap.NotedW base (env :: outer) e cls a0 (rawInt L) s.heap h' → DictIs h' e D → Q () { s with heap := h' }) : wpAny M A (noteFrame (.ref e) env) Q E s := by
  refine wo ?_
  simp (disch :=
  k_dflt (
  refine wk ?_
  obtain ⟨oe, vs, T, oT, ts, he, ⟨hcls, h0⟩, hd, h1, hnT, hTe, hT, hdT, h3⟩ := ht
  subst hcls
  obtain ⟨o', ho', hD'⟩ := hD
  rw [he] at ho'
  cases ho'
  unfold noteFrame
  simp only [hf]
  refine wpAny_bind (wpAny_field he hd h1 ?_)
  rw [if_pos (show (Value.ref T != Value.none) = true from by simp)]
  refine wpAny_bind (wpAny_field hT hdT h3 ?_)
  rw [if_neg (show ¬ ((Value.none == rawInt L) = true) from by simp [rawInt])]
  refine wpAny_bind (wpAny_setField hT hdT (Array.getElem?_eq_some_iff.mp h3).1 ?_)
  have other : ∀ b, b ≠ T → (s.heap.update T (Obj.mapFields (·.setIfInBounds 3 Value.none))).get? b = s.heap.get? b := fun b hb => Heap.get?_update_other _ _ (Ne.symm hb)
  have noRec : ∀ b o, s.heap.get? b = some o → (∀ vs, o.data ≠ .fields vs) → b ≠ T := fun b o hb hnf q => by
    rw [q, hT] at hb
    cases hb
    exact hnf ts hdT
  refine entryD hfr (hl.of_keeps fun b o hb hnf => ⟨o, (other b (noRec b o hb hnf)).trans hb, rfl⟩) hf ((other e (Ne.symm hTe)).trans he) (fun b o hbo => (other b fun q => by rw [q, hnT] at hbo; cases hbo).trans (hkb b o hbo)) hen hd (Array.getElem?_eq_some_iff.mp h1).1 h0 hD' fun h' x y => ?_
  obtain ⟨x1, x2, x3, x4⟩ := x
  exact h h' ⟨x1, x2, x3, fun b o hb hnf => x4 b o ((other b (noRec b o hb hnf)).trans hb) hnf⟩ y
  )) only [↓wt]
/-- no longer in flight -/
theorem flightD {l : List Env} {Q : Unit → Shared → Prop} (hkb : base.StaysIn s.heap) (hl : s.heap.FunFrames base l) (ht : s.heap.TracedAtW base e cls a0 fl) (hD : DictIs s.heap e D)
    (h : ∀ h', base.StaysIn h' → h'.FunFrames base l → h'.TracedW base e cls a0 → s.heap.UpToSlots h' → DictIs h' e D → Q () { s with heap := h' }) : wpAny M A (setFlight (.ref e) none) Q E s := by
  refine wo ?_
  simp (disch :=
  k_dflt (
  refine wk ?_
  obtain ⟨oe, vs, T, oT, ts, he, hcls, hd, h1, hnT, hTe, hT, hdT, h3⟩ := ht
  obtain ⟨o', ho', hD'⟩ := hD
  have hsz3 : 3 < ts.size := (Array.getElem?_eq_some_iff.mp h3).1
  have other : ∀ b, b ≠ T → (s.heap.update T (Obj.mapFields (·.setIfInBounds 3 ((none : Option Addr).elim Value.none fun f => rawInt f)))).get? b = s.heap.get? b := fun b hb => Heap.get?_update_other _ _ (Ne.symm hb)
  have noRec : ∀ b o, s.heap.get? b = some o → (∀ vs, o.data ≠ .fields vs) → b ≠ T := fun b o hb hnf q => by
    rw [q, hT] at hb
    cases hb
    exact hnf ts hdT
  unfold setFlight
  refine wpAny_bind (wpAny_field he hd h1 ?_)
  rw [if_pos (show (Value.ref T != Value.none) = true from by simp)]
  refine wpAny_setField hT hdT hsz3 (h _ (fun b o hbo => (other b fun q => by rw [q, hnT] at hbo; cases hbo).trans (hkb b o hbo)) (hl.of_keeps fun b o hb hnf => ⟨o, (other b (noRec b o hb hnf)).trans hb, rfl⟩) ?_ (fun b o hb hnf => ⟨o.slots, (other b (noRec b o hb hnf)).trans hb⟩) ⟨o', (other e (Ne.symm hTe)).trans ho', hD'⟩)
  exact ⟨oe, vs, T, _, _, (other e (Ne.symm hTe)).trans he, hcls, hd, h1, hnT, hTe, Heap.get?_update_self _ hT (Obj.isFreed_of_fields (Obj.data_mapFields hdT _)), Obj.data_mapFields hdT _, by simp [hsz3]⟩
  )) only [↓wt]
/-- out of the frame that raised -/
theorem leavesD_first {oe : Obj} {vs : Array Value} {Q : Unit → Shared → Prop} (hfr : A.frames = some (env :: outer)) (hl : s.heap.FunFrames base (env :: outer)) (hf : env.frame = some L) (he : s.heap.get? e = some oe)
    (hkb : base.StaysIn s.heap) (hen : base.get? e = none) (hd : oe.data = .fields vs) (h1 : vs[1]? = some .none) (h0 : vs[0]? = some a0) (hD : oe.dict = some D)
    (h : ∀ h', Heap.FlyingW base outer e oe.cls a0 h' → s.heap.UpToSlots h' → DictIs h' e D → Q () { s with heap := h' }) : wpAny M A (leaving env (.ref e)) Q E s := by
  unfold leaving
  refine wpAny_bind (noteD_first hfr hl hf he hkb hen hd h1 h0 hD fun h' x y => ?_)
  obtain ⟨x1, x2, x3, x4⟩ := x
  refine flightD (s := { s with heap := h' }) x1 x2 x3 y fun h'' y1 y2 y3 y4 y5 => ?_
  obtain ⟨_, _, y2⟩ := y2
  exact h h'' ⟨y1, hen, y2, y3⟩ (Heap.UpToSlots.trans x4 y4) y5
theorem leavesD_on {Q : Unit → Shared → Prop} (hfr : A.frames = some (env :: outer)) (hf : env.frame = some L) (hfl : Heap.FlyingW base (env :: outer) e cls a0 s.heap) (hD : DictIs s.heap e D)
    (h : ∀ h', Heap.FlyingW base outer e cls a0 h' → s.heap.UpToSlots h' → DictIs h' e D → Q () { s with heap := h' }) : wpAny M A (leaving env (.ref e)) Q E s := by
  obtain ⟨f1, f2, f3, f4⟩ := hfl
  unfold leaving
  refine wpAny_bind (noteD_on hfr f3 hf f4 f1 f2 hD fun h' x y => ?_)
  obtain ⟨x1, x2, x3, x4⟩ := x
  refine flightD (s := { s with heap := h' }) x1 x2 x3 y fun h'' y1 y2 y3 y4 y5 => ?_
  obtain ⟨_, _, y2⟩ := y2
  exact h h'' ⟨y1, f2, y2, y3⟩ (Heap.UpToSlots.trans x4 y4) y5
end
end
section
open PySem PySem.W PyProof.Rows PySem.Calls PySem.Spec
set_option maxRecDepth 100000
/-- the dict of a Refusal -/
abbrev msgD (w : World) (msg : Str) (tk tm : Tok) : Obj := dictOf [ent w.params (Str.ofString "message") tk (.str msg tm)] 1
/-- a Refusal on its way out of the frames l: what stood in G stands, but for the frames -/
def RaisedE (base G : Heap) (l : List Env) (e D : Addr) (oD : Obj) (h : Heap) : Prop :=
  ∃ B a0, base.StaysIn B ∧ (∀ b o, G.get? b = some o → b ∉ l.filterMap (·.frame) → B.get? b = some o) ∧ B.get? D = some oD ∧ G.get? D = none ∧ Heap.FlyingW B l e (.ref 44) a0 h ∧ DictIs h e D ∧ G.UpToSlots h
/-- the call of a def raises a Refusal -/
def TellsX (w : World) (d : Nat) (f : Addr) (args : List Value) (pre : List (Addr × Obj)) (msg : Str) : Prop :=
  ∀ (p : Program) (loose : List Str) (mean : ExcName → Option Value) (mg mb : Str → Option Value)
    (dp un : Nat) (gd : Option (List Code)) (cn : Str) (cs : Scope) (a : Addr) (ccd : Value) (cl : List (Str × Addr)) (outer : List Env) (A₀ : Around) (base h₀ : Heap) (L : Addr) (m : Str → Option Value) (s : Shared) (Q E : Value → Shared → Prop),
    Below A₀ base outer h₀ → Fr h₀ L s.heap m → (fragK.heap_1 w.params).In h₀ → News h₀ L s.heap pre → Top p loose mean mg mb h₀ → cs.kind = .function → dp + d < recursionLimit → un + 8 * d < cLine →
    (∀ e D tk tm h' tk', RaisedE base s.heap (envX cn cs L a ccd cl :: outer) e D (msgD w msg tk tm) h' → E (.ref e) { s with heap := h', toks := tk' }) →
    wpAny (model PySem.Challenge.rw_pq1344_01.row.prog w) (ktrTop dp un gd cn cs L a ccd cl outer) (call (.ref f) args) Q E s
/-- where a body raises -/
def Boom (w : World) (A : Around) (env : Env) (base H0 : Heap) (l : List Env) (msg : Str) (s : Shared) (x : Value) (s' : Shared) : Prop :=
  wpAny (model PySem.Challenge.rw_pq1344_01.row.prog w) A (leaving env x) (fun _ s'' => ∃ e D tk tm h' tk', x = .ref e ∧ s'' = { s with heap := h', toks := tk' } ∧ RaisedE base H0 l e D (msgD w msg tk tm) h') (fun _ _ => False) s'
/-- what stood at the call stands in the frame -/
theorem kept {H0 h₁ : Heap} {L : Addr} {m : Str → Option Value} {pre news : List (Addr × Obj)} (hN0 : ∀ q ∈ pre, H0.get? q.1 = some q.2) (F : Fr (hideAll H0 (pre.map (·.1))) L h₁ m) (N : News (hideAll H0 (pre.map (·.1))) L h₁ news) (hs : ∀ q ∈ pre, q ∈ news) :
    ∀ b o, H0.get? b = some o → h₁.get? b = some o := fun b o e => by
  by_cases hm : b ∈ pre.map (·.1)
  · obtain ⟨q, hq, rfl⟩ := List.mem_map.mp hm
    have e1 := hN0 q hq
    rw [e] at e1
    cases e1
    exact (N q (hs q hq)).1
  · exact F.keep b o (hideAll_get _ e hm)
section
variable {w : World} {base H0 H1 : Heap} {l : List Env} {msg : Str} {s : Shared} {A : Around} {env : Env} {L e D : Addr} {tk tm tk' : Tok} {h' : Heap}
theorem mem_frames {b : Addr} (hf : env.frame = some L) (hb : b ≠ L) (hm : b ∉ l.filterMap (·.frame)) : b ∉ (env :: l).filterMap (·.frame) := fun z => by
  obtain ⟨v, hv, hfv⟩ := List.mem_filterMap.mp z
  rcases List.mem_cons.mp hv with rfl | hv
  · rw [hf] at hfv
    exact hb (Option.some.inj hfv).symm
  · exact hm (List.mem_filterMap.mpr ⟨v, hv, hfv⟩)
/-- a Refusal of a call goes on -/
theorem boom_on (hfr : A.frames = some (env :: l)) (hf : env.frame = some L) (R : RaisedE base H1 (env :: l) e D (msgD w msg tk tm) h') (hk : ∀ b o, H0.get? b = some o → H1.get? b = some o) (hL : H0.get? L = none) :
    Boom w A env base H0 l msg s (.ref e) { s with heap := h', toks := tk' } := by
  obtain ⟨B, a0, hB, hBG, hBD, hGD, hfl, hDi, hup⟩ := R
  have hD0 : H0.get? D = none := by
    cases z : H0.get? D with
    | none => rfl
    | some o => rw [hk _ _ z] at hGD; cases hGD
  refine leavesD_on hfr hf hfl hDi fun h'' x1 x2 x3 => ⟨e, D, tk, tm, h'', tk', rfl, rfl, B, a0, hB, fun b o q nm => hBG b o (hk b o q) (mem_frames hf (fun z => by rw [z, hL] at q; cases q) nm), hBD, hD0, x1, x3, ?_⟩
  exact (Heap.UpToSlots.of_keeps hk).trans (hup.trans x2)
/-- a Refusal is made in this frame -/
theorem boom_made {A₀ : Around} {g : Heap} {m : Str → Option Value} {t0 : Addr} (Bl : Below A₀ base l g) (F : Fr g L H1 m) (hA : A.frames = some (env :: l)) (hf : env.frame = some L) (hke : env.scope.kind = .function) (hk : ∀ b o, H0.get? b = some o → H1.get? b = some o) (hL : H0.get? L = none)
    (k1 : ∀ b o, H1.get? b = some o → h'.get? b = some o) (ke : H1.get? e = none) (kD : H1.get? D = none) (he : h'.get? e = some { cls := .ref 44, dict := some D, data := .fields #[.ref t0, .none, .none, .none, .bool false, .none] }) (hD : h'.get? D = some (msgD w msg tk tm)) :
    Boom w A env base H0 l msg s (.ref e) { s with heap := h', toks := tk' } := by
  refine wo ?_
  simp (disch :=
  k_dflt (
  refine wk ?_
  have P := pushX Bl F hf hke
  have hmem : ∀ b ∈ (env :: l).filterMap (·.frame), base.get? b = none ∧ ∃ o, H1.get? b = some o := fun b hb => by
    obtain ⟨x1, o, x2, _⟩ := P.frames.mem hb
    exact ⟨x1, o, x2⟩
  have hD0 : H0.get? D = none := by
    cases z : H0.get? D with
    | none => rfl
    | some o => rw [hk _ _ z] at kD; cases kD
  have hDe : D ≠ e := fun z => by rw [z, he] at hD; cases hD
  have out : ∀ b o, H1.get? b = some o → b ∉ (env :: l).filterMap (·.frame) → (hideAll h' (e :: (env :: l).filterMap (·.frame))).get? b = some o := fun b o q nm => hideAll_get _ (k1 b o q) fun hm => by
    rcases List.mem_cons.mp hm with z | z
    · rw [z, ke] at q; cases q
    · exact nm z
  have hFF : h'.FunFrames (hideAll h' (e :: (env :: l).filterMap (·.frame))) (env :: l) := funFrames_hide (P.frames.of_keeps fun b o q _ => ⟨o, k1 b o q, rfl⟩) fun env' he' b hb => .tail _ (List.mem_filterMap.mpr ⟨env', he', hb⟩)
  refine leavesD_first (s := { s with heap := h', toks := tk' }) hA hFF hf he (fun b o q => of_hideAll _ q) (hideAll_none _ (.head _)) rfl rfl rfl rfl fun h'' x1 x2 x3 => ⟨e, D, tk, tm, h'', tk', rfl, rfl, _, _, fun b o q => out b o (P.stays b o q) (fun hm => by rw [(hmem b hm).1] at q; cases q), fun b o q nm => out b o (hk b o q) (mem_frames hf (fun z => by rw [z, hL] at q; cases q) nm), ?_, hD0, x1, x3, ?_⟩
  · refine hideAll_get _ hD fun hm => ?_
    rcases List.mem_cons.mp hm with z | z
    · exact hDe z
    · obtain ⟨o, z⟩ := (hmem D z).2
      rw [kD] at z
      cases z
  · exact (Heap.UpToSlots.of_keeps hk).trans ((Heap.UpToSlots.of_keeps k1).trans x2)
  )) only [↓wt]
end
section
variable {w : World} {d : Nat} {f : Addr} {args : List Value} {pre : List (Addr × Obj)} {msg : Str}
  {name qual : Str} {params : Arguments} {body : List Stmt} {scope : Scope} {dV kV doc pm cdv ct oc : Value} {an od : Option Addr} {osl : Array (Option Value)} {binds : List (Str × Value)}
theorem raises_plain (ho : (fragK.heap_1 w.params).lookup f = some ⟨oc, od, .func (fnOf name qual params body scope dV kV doc pm an cdv ct), osl⟩) (hcd : codeIn (fragK.heap_1 w.params) cdv qual = true)
    (hbind : ∀ s, BindsTo s (fnOf name qual params body scope dV kV doc pm an cdv ct) ⟨args, []⟩ binds) (hloc : ∀ y ∈ binds, scope.names.lookup y.1 = some .local)
    (hcell : ∀ x ∈ scope.names, x.2 ≠ .cell) (hco : scope.isCoroutine = false) (hgen : scope.isGenerator = false) (hk : scope.kind = .function) (hd0 : 0 < d)
    (h : ∀ (p : Program) (loose : List Str) (mean : ExcName → Option Value) (mg mb : Str → Option Value) (dp un : Nat) (gd : Option (List Code)) (cn : Str) (cs : Scope) (L a : Addr) (ccd : Value) (cl : List (Str × Addr)) (outer : List Env) (base H0 : Heap) (L' : Addr) (s : Shared),
      Below (ktrTop dp un gd cn cs L a ccd cl outer) base (envX cn cs L a ccd cl :: outer) (hideAll H0 (pre.map (·.1))) → Fr (hideAll H0 (pre.map (·.1))) L' s.heap (fun y => binds.reverse.lookup y) → (fragK.heap_1 w.params).In (hideAll H0 (pre.map (·.1))) → News (hideAll H0 (pre.map (·.1))) L' s.heap pre → Top p loose mean mg mb (hideAll H0 (pre.map (·.1))) → dp + d < recursionLimit → un + 8 * d < cLine →
      (∀ q ∈ pre, H0.get? q.1 = some q.2) → H0.get? L' = none →
      wpAny (model PySem.Challenge.rw_pq1344_01.row.prog w) ((ktrTop dp un gd cn cs L a ccd cl outer).deeper (envOf qual scope L' f cdv)) (execs body (envOf qual scope L' f cdv))
        (fun _ _ => False) (Boom w ((ktrTop dp un gd cn cs L a ccd cl outer).deeper (envOf qual scope L' f cdv)) (envOf qual scope L' f cdv) base H0 (envX cn cs L a ccd cl :: outer) msg s) s) : TellsX w d f args pre msg := by
  refine wo ?_
  simp (disch :=
  k_dflt (
  refine wk ?_
  intro p loose mean mg mb dp un gd cn cs a ccd cl outer A₀ base h₀ L m s Q E B F X N T hck hdp hun hret
  refine wpAny_call ?_
  obtain ⟨FG, BG, st, lv⟩ := groundX (A := ktrTop dp un gd cn cs L a ccd cl outer) (env := envX cn cs L a ccd cl) (R := fun r s' => ∀ v, r = .ok (.ret v) → Fr h₀ L s'.heap m) B F N rfl rfl hck
  refine codeAny_call_def (fd := fnOf name qual params body scope dV kV doc pm an cdv ct) (body := body) (binds := binds) (by show dp < recursionLimit; omega) ((X.keeps F.keep) _ _ ho) rfl (T.nolimit.keeps F.keep) (codeRec_of (X.keeps F.keep) hcd) rfl (hbind _) hcell hloc (fun h₁ hns hk₁ => ?_) hco hgen hk
  refine wpAny_mono (h p loose mean mg mb dp un gd cn cs L a ccd cl outer base s.heap s.heap.objs.size { s with heap := h₁, toks := s.toks + binds.length } BG ⟨hns, fun b o e => hk₁ b o (of_hideAll _ e), Nat.le_of_eq (hideAll_size _ _)⟩ (X.keeps st)
    (fun q hq => ⟨hk₁ _ _ (N q hq).1, Nat.ne_of_lt (Heap.lt_size (N q hq).1), hideAll_none _ (List.mem_map_of_mem hq)⟩) (T.keeps st) hdp hun (fun q hq => (N q hq).1) (Heap.get?_none_of_le (Nat.le_refl _))) (fun _ _ x => x.elim) (fun x s' hb => ?_)
  refine wpAny_mono hb (fun _ s'' hp => ?_) (fun _ _ z => z.elim)
  obtain ⟨e, D, tk, tm, h', tk', rfl, rfl, R⟩ := hp
  exact hret e D tk tm h' tk' R
  )) only [↓wt]
end
/-- by a contract that raises -/
theorem tellsX_call {w : World} {d : Nat} {f : Addr} {args : List Value} {pre : List (Addr × Obj)} {msg : Str}
    {p : Program} {loose : List Str} {mean : ExcName → Option Value} {mg mb : Str → Option Value} {dp un : Nat} {gd : Option (List Code)} {cn : Str} {cs : Scope} {a : Addr} {ccd : Value} {cl : List (Str × Addr)} {outer : List Env} {A₀ : Around} {base h₀ : Heap} {L : Addr} {m : Str → Option Value} {s : Shared} {Q E : Value → Shared → Prop} {news : List (Addr × Obj)}
    (C : TellsX w d f args pre msg) (B : Below A₀ base outer h₀) (F : Fr h₀ L s.heap m) (X : (fragK.heap_1 w.params).In h₀) (N : News h₀ L s.heap news) (hs : ∀ q ∈ pre, q ∈ news) (T : Top p loose mean mg mb h₀) (hk : cs.kind = .function) (hdp : dp + d < recursionLimit) (hun : un + 8 * d < cLine)
    (ret : ∀ e D tk tm h' tk', RaisedE base s.heap (envX cn cs L a ccd cl :: outer) e D (msgD w msg tk tm) h' → E (.ref e) { s with heap := h', toks := tk' }) :
    wpAny (model PySem.Challenge.rw_pq1344_01.row.prog w) (ktrTop dp un gd cn cs L a ccd cl outer) (call (.ref f) args) Q E s :=
  C p loose mean mg mb dp un gd cn cs a ccd cl outer A₀ base h₀ L m s Q E B F X (fun q hq => N q (hs q hq)) T hk hdp hun ret
end
section
open PySem PySem.W PyProof.Rows PySem.Calls
set_option Elab.async false
set_option maxRecDepth 100000 
set_option maxHeartbeats 8000000 
theorem kwC10_0 : True := by
  k_with_none
  k_with "MEM" => first | (with_reducible exact List.mem_cons_self) | ((with_reducible refine List.mem_cons_of_mem _ ?_); k_extra "MEM")
  k_with "ENTER" => (refine' code_defP ?zqk1 ?zqk2 ?zqk3 ?zqk4 ?zqk5 ?zqkA ?zqkF ?zqkK ?zqk6 ?zqk7 ?zqk8 ?zqk9 ?zqkB ?_ ?zqc2 ?zqc3 ?zqc4 ?zqc5; (case zqkA => exact rfl); (case zqkF => exact rfl); (case zqkK => exact rfl); (case zqk1 => k_asm); (case zqk2 => k_asm); (case zqk3 => k_asm); (case zqk4 => k_asm); (case zqk5 => k_asm); (case zqk6 => k_is); (case zqk7 => k_is); (case zqk8 => k_room); (case zqk9 => first | exact BindsTo.of_eq rfl | exact binds_K (by k_in) rfl (by k_is) rfl rfl rfl); (case zqc5 => decide); (case zqkB => exact locs rfl); (case zqc2 => exact rfl); (case zqc3 => exact rfl); (case zqc4 => exact rfl); k_whole; intro g' L' h' Q' FG' F' N' B' X' T' hQ' e9 A9; (try dsimp only); (try k_lift B'); (try k_fold))
  k_with "S0" => ((fail_if_success (with_reducible show Post _ _ _ _ _ _ _ _)); (fail_if_success (with_reducible show LoopP _ _ _ _ _ _ _ _)); (fail_if_success (with_reducible show CmpP _ _ _ _ _ _ _ _ _ _ _ _ _ _ _)))
  k_with "S1" => first | (k_unfold; (try dsimp only)) | (k_end; wrow_close) | walk1 | (with_reducible refine hand (by assumption) ?_; try dsimp only) | (dsimp only; walk1) | (leave1; try dsimp only)
  k_with "ROOM" => first | (refine' room0 ?zqh ?zqe; (case zqh => assumption); (case zqe => exact rfl)) | (refine' room1 ?zqh ?zqe; (case zqh => assumption); (case zqe => exact rfl)) | (refine' room2 ?zqh ?zqe; (case zqh => assumption); (case zqe => exact rfl)) | (refine' room3 ?zqh ?zqe; (case zqh => assumption); (case zqe => exact rfl)) | (refine' roomz ?zqh; (case zqh => assumption)) | ktr_room
  k_with "UNITS" => first | (refine' room0 ?zqh ?zqe; (case zqh => assumption); (case zqe => exact rfl)) | (refine' room1 ?zqh ?zqe; (case zqh => assumption); (case zqe => exact rfl)) | (refine' room2 ?zqh ?zqe; (case zqh => assumption); (case zqe => exact rfl)) | (refine' room3 ?zqh ?zqe; (case zqh => assumption); (case zqe => exact rfl)) | exact lt_num rfl | ktr_units
  k_with "AR" => first | assumption | exact Nat.le_max_right _ _ | exact Nat.le_max_left _ _ | exact Nat.max_lt.mpr ⟨by assumption, by assumption⟩ | (refine' le_up ?zqh ?zqe; (case zqh => assumption); (case zqe => exact rfl)) | omega
  k_with "SUT" => first | exact sub_self | (refine sub_skip ?_; k_extra "SUT")
  k_with "SUB" => first | exact sub_nil | ((with_reducible refine' sub_cons ?zqsm ?_); (case zqsm => k_mem); k_extra "SUB") | k_extra "SUT"
  k_with "SUK" => first | exact sub_nil | k_extra "SUT" | k_extra "SUB"
  k_with "KEEP" => first | (refine keep_hd (List.Mem.head _) ?_; k_extra "KEEP") | exact keep_of (by k_extra "SUK") | ((with_reducible refine' keep_cons ?zqkm ?_); (case zqkm => k_mem); k_extra "KEEP")
  k_with "APQ" => (rename Apart _ _ => h9; first | exact Apart.at h9 (by k_extra "MEM") (by k_extra "MEM") | exact ap_at h9 (by k_extra "MEM") (by k_extra "MEM") | (clear h9; k_extra "APQ"))
  k_with "ANQ" => (rename AllNe _ _ => h9; first | exact AllNe.at h9 (by k_extra "MEM") | exact an_at h9 (by k_extra "MEM") | (clear h9; k_extra "ANQ"))
  k_with "ALQ" => (rename AllLt _ _ => h9; first | exact lt_ne h9 (by k_extra "MEM") | exact lt_en h9 (by k_extra "MEM") | exact lt_ne2 h9 (by assumption) (by k_extra "MEM") | exact lt_en2 h9 (by assumption) (by k_extra "MEM") | (clear h9; k_extra "ALQ"))
  k_with "NEQ" => first | assumption | exact Ne.symm (by assumption) | exact Nat.ne_of_lt (by assumption) | exact Nat.ne_of_gt (by assumption) | k_extra "ALQ" | k_extra "ANQ" | k_extra "APQ" | omega
  k_with "APS" => (rename Apart _ _ => h9; first | exact Apart.subA h9 rfl (by k_extra "SUK") | (clear h9; k_extra "APS"))
  k_with "NE1" => (refine neN ?_; (try dsimp only); k_extra "NEQ")
  k_with "ALL" => first | exact all_nil | (rename AllLt _ _ => h9; exact lt_sub h9 (by k_extra "SUT")) | (refine' all_cons ?zqa ?zqb; (case zqa => k_ne); (case zqb => k_all))
  k_with "ALN" => first | exact ne_nil | (refine ne_cons ?_ ?_; (focus ((try dsimp only); k_extra "NEQ")); k_extra "ALN")
  k_with "APM" => first | exact ap_nil | k_extra "APS" | (refine ap_cons ?_ ?_; (focus k_extra "ALN"); k_extra "APM")
  k_with "CA" => ((case zqkB => k_asm); (case zqkF => k_asm); (case zqkX => k_asm); (case zqkN => k_asm))
  k_with "CB" => ((case zqkT => k_asm); (case zqkK => first | exact rfl | assumption); (case zqkd => k_extra "ROOM"); (case zqku => k_extra "UNITS"))
  k_with "CE" => all_goals ((try ((with_reducible rename News _ _ _ _ => h9); simp only [List.nil_append, List.cons_append] at h9)); (try ((with_reducible rename Apart [] _ => h7); clear h7)); (try dsimp only [Option.getD_some, Option.getD_none]); (try k_sweep); (try k_fold))
  k_with "CZ" => all_goals ((try dsimp only [Option.getD_some, Option.getD_none]); (try k_sweep); (try k_fold))
  k_with "call builtin:len" => (k_here; (with_reducible show wpAny _ _ (call (Value.builtin "len") [Value.ref _]) _ _ _); k_dflt (refine' len_sym ?zqk1 ?zqk2 ?zqk3 ?_; (case zqk1 => k_asm); (case zqk2 => k_mem); (case zqk3 => k_extra "AR"); k_whole))
  k_with "getMethod ref" => (k_here; (with_reducible show wpAny _ _ (getMethod (Value.ref _) (PySem.Str.ofString "get") _) _ _ _); k_dflt (refine' get_method ?zqk1 ?zqk2 ?zqk3 ?_; (case zqk1 => k_asm); (case zqk2 => k_mem); (case zqk3 => with_reducible assumption); k_whole))
  k_with "call builtin:dict.get" => (k_here; (with_reducible show wpAny _ _ (call (Value.builtin "dict.get") [Value.ref _, Value.str _ _]) _ _ _); k_dflt (refine' get_call ?zqk0 ?zqk1 ?zqk2 ?zqk3 ?_; (case zqk1 => k_asm); (case zqk2 => k_mem); (case zqk3 => with_reducible assumption); (case zqk0 => with_reducible assumption); k_whole))
  k_with "LOCA" => first | exact LocArgs.nil | (refine' LocArgs.cons ?zqlk ?zqld ?zqlv ?zqlt; (case zqlk => kernel_rfl!); (case zqld => kernel_rfl); (case zqlv => first | rfl | assumption); (case zqlt => k_extra "LOCA"))
  k_with "eval Call" => (k_here; (with_reducible show wpAny _ _ (eval (Expr.Call (Expr.Name _ _) (Expr.Name _ _ :: _) [] _) _) _ _ _); first | ((with_reducible refine' callO_loc ?zqF ?zqX ?zqT ?zqe ?zqk ?zqa ?zqb ?zqc ?zql ?_); k_dflt ((case zqF => k_asm); (case zqX => k_asm); (case zqT => k_asm); (case zqa => exact rfl); (case zqb => kernel_rfl!); (case zqc => kernel_rfl); (case zqe => k_is); (case zqk => k_is); (case zql => k_extra "LOCA"); k_whole)) | ((with_reducible refine' callC_loc ?zqF ?zqX ?zqT ?zqe ?zqk ?zqa ?zqb ?zqc ?zql ?_); k_dflt ((case zqF => k_asm); (case zqX => k_asm); (case zqT => k_asm); (case zqa => exact rfl); (case zqb => kernel_rfl!); (case zqc => kernel_rfl); (case zqe => k_is); (case zqk => k_is); (case zql => k_extra "LOCA"); k_whole)))
  k_with "eval Attribute Name" => (k_here; (with_reducible refine' attrO_loc ?zqF ?zqv ?zqa ?zqb ?zqc ?_); k_dflt ((case zqF => k_asm); (case zqa => exact rfl); (case zqb => kernel_rfl!); (case zqc => kernel_rfl); (case zqv => first | rfl | assumption); k_whole))
  k_with "ite" => (k_here; first | (k_closed; first | ((with_reducible refine ite_pos ?zqk2 ?_); k_dflt (case zqk2 => decide)) | ((with_reducible refine ite_neg ?zqk2 ?_); k_dflt (case zqk2 => decide))) | (refine' ite_bf ?zqk1 ?_; (case zqk1 => first | assumption | exact decide_eq_false (by omega) | exact beq_eq_false_iff_ne.mpr (by omega))) | (refine' ite_bt ?zqk1 ?_; (case zqk1 => first | assumption | exact decide_eq_true (by omega) | exact beq_iff_eq.mpr (by omega))))
  k_with "call type:dict" => (k_here; (with_reducible show wpAny _ _ (call (Value.type "dict") [Value.ref _]) _ _ _); k_dflt (refine' dict_copyK ?zqF ?zqN ?zqb ?zqm ?zqD ?zql ?zqz ?_; (case zqF => k_asm); (case zqN => k_asm); (case zqb => exact Top.nolimit (by k_asm)); (case zqm => k_mem); (case zqD => with_reducible assumption); (case zql => with_reducible assumption); (case zqz => omega); k_whole); intro d' h' o' F' N' l1 lo' hd'; (try k_lt l1))
  k_with "OWN" => (intro p9 hp9; repeat' (first | exact hp9 | refine List.mem_append.mpr (Or.inr ?_) | refine List.mem_cons_of_mem _ ?_))
  k_with "eval Name" => (k_here; first | ((with_reducible refine' nameO_L ?zqF ?zqv ?_ ?zqa ?zqb ?zqc); k_dflt ((case zqF => k_asm); (case zqa => exact rfl); (case zqb => kernel_rfl!); (case zqc => kernel_rfl); (case zqv => first | rfl | assumption); k_whole)) | ((with_reducible refine' nameO_K ?zqF ?zqX ?zqT ?zqe ?_ ?zqa ?zqb ?zqc); k_dflt ((case zqF => k_asm); (case zqX => k_asm); (case zqT => k_asm); (case zqa => exact rfl); (case zqb => kernel_rfl!); (case zqc => kernel_rfl); (case zqe => k_is); k_whole)) | ((with_reducible refine' nameC_L ?zqF ?zqv ?_ ?zqa ?zqb ?zqc); k_dflt ((case zqF => k_asm); (case zqa => exact rfl); (case zqb => kernel_rfl!); (case zqc => kernel_rfl); (case zqv => first | rfl | assumption); k_whole)) | ((with_reducible refine' nameC_K ?zqF ?zqX ?zqT ?zqe ?_ ?zqa ?zqb ?zqc); k_dflt ((case zqF => k_asm); (case zqX => k_asm); (case zqT => k_asm); (case zqa => exact rfl); (case zqb => kernel_rfl!); (case zqc => kernel_rfl); (case zqe => k_is); k_whole)))
  trivial
theorem kwC10_1 : True := by
  k_with "call ref" => (k_here; (with_reducible show wpAny _ _ (call (Value.ref 697) _) _ _ _); k_dflt (refine' tells_call0 (valvec_tells) ?zqkB ?zqkF ?zqkX ?zqkN ?zqkS ?zqkT ?zqkK ?zqkd ?zqku ?_; k_extra "CA"; (case zqkS => k_extra "SUK"); k_extra "CB"; k_whole; intro  h' tk' F' N'; k_extra "CZ"))
  k_with "call ref" => (k_here; (with_reducible show wpAny _ _ (call (Value.ref 221) _) _ _ _); k_dflt (refine' tells_call0 (names_any ?zqhi ?zqhDr) ?zqkB ?zqkF ?zqkX ?zqkN ?zqkS ?zqkT ?zqkK ?zqkd ?zqku ?_; k_extra "CA"; (case zqhDr => with_reducible assumption); (case zqkS => k_extra "SUK"); (case zqhi => with_reducible assumption); k_extra "CB"; k_whole; intro v9Z h' tk' F' N'; k_extra "CZ"))
  k_with "call ref" => (k_here; (with_reducible show wpAny _ _ (call (Value.ref 725) _) _ _ _); k_dflt (refine' tells_call0 (check_tells ?zqhI ?zqhwl) ?zqkB ?zqkF ?zqkX ?zqkN ?zqkS ?zqkT ?zqkK ?zqkd ?zqku ?_; k_extra "CA"; (case zqkS => k_extra "SUK"); (case zqhI => with_reducible assumption); (case zqhwl => k_extra "AR"); k_extra "CB"; k_whole; intro  h' tk' F' N'; k_extra "CZ"))
  k_with "call ref" => (k_here; (with_reducible show wpAny _ _ (call (Value.ref 704) _) _ _ _); k_dflt (refine' tells_call0 (assigned_tells ?zqhi ?zqhj) ?zqkB ?zqkF ?zqkX ?zqkN ?zqkS ?zqkT ?zqkK ?zqkd ?zqku ?_; k_extra "CA"; (case zqkS => k_extra "SUK"); (case zqhi => assumption); (case zqhj => assumption); k_extra "CB"; k_whole; intro t9Z h' tk' F' N'; k_extra "CZ"))
  k_with "call ref" => (k_here; (with_reducible show wpAny _ _ (call (Value.ref 690) _) _ _ _); k_dflt (refine' tells_callG (raised_tells ?zqhi ?zqhDr ?zqhij ?zqhj ?zqhus ?zqhlen ?zqhlo) ?zqkB ?zqkF ?zqkX ?zqkN ?zqkS ?zqkT ?zqkK ?zqkd ?zqku ?_; k_extra "CA"; (case zqhDr => with_reducible assumption); (case zqkS => k_extra "SUK"); (case zqhi => with_reducible assumption); (case zqhij => k_extra "AR"); (case zqhj => k_extra "AR"); (case zqhus => assumption); (case zqhlen => k_extra "AR"); (case zqhlo => exact rfl); k_extra "CB"; k_whole; intro x9Z d9Z l9Z da9Z n9Z n8Z a9Z o9Z u9Z s91Z s92Z s93Z s94Z s95Z s96Z s97Z t9Z hRz9Z hWo9Z hN91Z hN92Z hN93Z h' tk' F' N' A'; have hln9 := hRz9Z.1; k_extra "CE"))
  k_with "call ref" => (k_here; (with_reducible show wpAny _ _ (call (Value.ref 683) _) _ _ _); k_dflt (refine' tells_callG (conv_tells ?zqhj ?zqhjk ?zqhk ?zqhws ?zqhwl) ?zqkB ?zqkF ?zqkX ?zqkN ?zqkS ?zqkT ?zqkK ?zqkd ?zqku ?_; k_extra "CA"; (case zqkS => k_extra "SUK"); (case zqhj => with_reducible assumption); (case zqhjk => k_extra "AR"); (case zqhk => k_extra "AR"); (case zqhws => assumption); (case zqhwl => k_extra "AR"); k_extra "CB"; k_whole; refine And.intro ?_ ?_; (focus (intro hRz8Z h' tk' F' N' A'; have hln8Z := hRz8Z.1; k_extra "CE")); rotate_left; (focus (intro l9Z n9Z u9Z hRz8Z h' tk' F' N' A'; have hln8Z := hRz8Z.1; k_extra "CE")); rotate_left))
  k_with "call ref" => (k_here; (with_reducible show wpAny _ _ (call (Value.ref 732) _) _ _ _); k_dflt (refine' tells_call0 (first_tells ?zqhI ?zqhn) ?zqkB ?zqkF ?zqkX ?zqkN ?zqkS ?zqkT ?zqkK ?zqkd ?zqku ?_; k_extra "CA"; (case zqkS => k_extra "SUK"); (case zqhI => with_reducible assumption); (case zqhn => k_extra "AR"); k_extra "CB"; k_whole; intro t9Z h' tk' F' N'; k_extra "CZ"))
  k_with "call ref" => (k_here; (with_reducible show wpAny _ _ (call (Value.ref 718) _) _ _ _); k_dflt (refine' tells_callGU (put_tells ?zqhi ?zqhI ?zqhn ?zqhw0 ?zqhw1 ?zqhul ?zqe1 ?zqe2 ?zqe3 ?zqe4) ?zqkB ?zqkF ?zqkX ?zqkN ?zqkS ?zqkU ?zqkT ?zqkK ?zqkd ?zqku ?_; k_extra "CA"; (case zqhI => with_reducible assumption); (case zqkS => k_extra "SUK"); (case zqkU => k_updF); (case zqhi => k_extra "AR"); (case zqhn => k_extra "AR"); (case zqhw0 => k_extra "AR"); (case zqhw1 => k_extra "AR"); (case zqhul => k_extra "AR"); (case zqe1 => k_extra "NEQ"); (case zqe2 => k_extra "NEQ"); (case zqe3 => k_extra "NEQ"); (case zqe4 => k_extra "NEQ"); k_extra "CB"; k_whole; intro  h' tk' F' N' A'; (try dsimp only at N'); k_extra "CE"))
  trivial
/-- the items us' are the items ws repeated and cut to the length of us, raised from kind j to kind k -/
def Rs (j k : Nat) (us ws us' : List Value) : Prop := us'.length = us.length ∧ ∀ q, q < us.length → Okv k (us'.getD q .none) ∧ dat (us'.getD q .none) = rzd j k (dat (ws.getD (q % ws.length) .none))
/-- what is noted -/
def Nts (n m : Nat) (ns : List Value) : Prop := if 0 < n ∧ n % m ≠ 0 then ∃ t, ns = [.str (Str.ofString "number of items to replace is not a multiple of replacement length") t] else ns = []
theorem Rs.of {j k n : Nat} {us vs ws ws' : List Value} (hn : us.length = n) (h : Rz j k ws ws') (hv : vs.length = n) (hw : 0 < ws.length) : Rs j k us ws (mixed vs ws' n) := by
  have e : mixed vs ws' n = (List.range n).map (fun i => ws'.getD (i % ws'.length) .none) := by rw [← hv, mixed_full]
  refine ⟨by rw [e, List.length_map, List.length_range, hn], fun q hq => ?_⟩
  have hq' : q < n := by omega
  have e2 : (mixed vs ws' n).getD q .none = ws'.getD (q % ws'.length) .none := by rw [e]; simp [hq']
  rw [e2, h.1]
  exact h.2 _ (Nat.mod_lt _ hw)
theorem fmod_cast (a b : Nat) : Int.fmod (a : Int) (b : Int) = ((a % b : Nat) : Int) := by rw [Int.fmod_eq_emod_of_nonneg _ (Int.natCast_nonneg _), Int.natCast_emod]
theorem Rs.nil {j k : Nat} {us ws vs : List Value} (hn : us.length = 0) (h : vs.length = us.length) : Rs j k us ws vs := ⟨h, fun q hq => absurd hq (by omega)⟩
set_option maxHeartbeats 16000000 in
theorem places_tells {w : World} {x d da xd dd ld : Addr} {t1 t2 t3 t4 t5 kt : Tok} {i : Nat} {av sh lo : Value} {n1 li n2 : Nat} {us : List Value} {o ex ed el : Obj} {kvs : List (Str × Value)} {j pl nt n3 n4 : Nat} {ps : List Value} {xv dv lv : Addr} {v1 v2 v3 v4 v5 vt : Tok} {vsh vlo : Value} {m1 m2 : Nat} {ws : List Value} (hi : i < 3) (hDr : Dr w av da o kvs xd dd ld ex ed el) (hj : j < 3) (hlo9 : lo = .bool false) (hus : ∀ u ∈ us, Okv i u) (hlen : us.length ≤ 600) (hws : ∀ u ∈ ws, Okv j u) (hwl : ws.length ≤ 600) (hI : IntsAre ps (rangeKs 0 us.length)) (hok : us.length = 0 ∨ 0 < ws.length)
    (hnt : AllNe nt [(x, instObj 113 d), (d, dictOf (vd w.params t1 t2 t3 t4 t5 (.str (kS i) kt) (.ref li) av sh lo) n1), (da, o), (xd, ex), (dd, ed), (ld, el), (li, listOf us.toArray n2), (xv, instObj 113 dv), (dv, dictOf (vd w.params v1 v2 v3 v4 v5 (.str (kS j) vt) (.ref lv) .none vsh vlo) m1), (lv, listOf ws.toArray m2), (pl, listOf ps.toArray n3)]) :
    Tells w 11 746 [.ref x, .ref pl, .none, .ref xv, .ref nt] [(x, instObj 113 d), (d, dictOf (vd w.params t1 t2 t3 t4 t5 (.str (kS i) kt) (.ref li) av sh lo) n1), (da, o), (xd, ex), (dd, ed), (ld, el), (li, listOf us.toArray n2), (xv, instObj 113 dv), (dv, dictOf (vd w.params v1 v2 v3 v4 v5 (.str (kS j) vt) (.ref lv) .none vsh vlo) m1), (lv, listOf ws.toArray m2), (pl, listOf ps.toArray n3), (nt, listOf ([] : List Value).toArray n4)] [nt] (GivesU nt [(x, instObj 113 d), (d, dictOf (vd w.params t1 t2 t3 t4 t5 (.str (kS i) kt) (.ref li) av sh lo) n1), (da, o), (xd, ex), (dd, ed), (ld, el), (li, listOf us.toArray n2), (xv, instObj 113 dv), (dv, dictOf (vd w.params v1 v2 v3 v4 v5 (.str (kS j) vt) (.ref lv) .none vsh vlo) m1), (lv, listOf ws.toArray m2), (pl, listOf ps.toArray n3), (nt, listOf ([] : List Value).toArray n4)] fun P => ∀ x' d' l' da' n' n8 n9 av' o'', ∀ us' ns : List Value, ∀ s1 s2 s3 s4 s5 s6 s7 t', Nts us.length ws.length ns → Rs j (max i j) us ws us' → Wo w av kvs av' da' o'' → P (.ref x') (listOf ns.toArray n9) [(x', instObj 113 d'), (d', dictOf (vd w.params s1 s2 s3 s4 s5 (.str (kS (max i j)) t') (.ref l') av' s6 s7) n8), (l', listOf us'.toArray n'), (da', o'')]) := by
  refine wo ?_
  simp (disch :=
  k_dflt (
  refine wk ?_
  subst hlo9
  have hpl : ps.length = us.length := by rw [hI.length, rangeKs_length]
  rcases Nat.eq_zero_or_pos us.length with hz | hz
  · refine' tells_plainP (binds := [(Str.ofString "v", .ref x), (Str.ofString "places", .ref pl), (Str.ofString "added", .none), (Str.ofString "value", .ref xv), (Str.ofString "notes", .ref nt)]) ?k1 ?k2 ?k3 ?k4 ?k5 ?k6 ?k7 ?k8 ?k9 ?_
    case k1 => k_is
    case k2 => k_is
    case k3 => exact fun s => BindsTo.of_eq rfl
    case k4 => exact locs rfl
    case k5 => decide
    case k6 => rfl
    case k7 => rfl
    case k8 => rfl
    case k9 => decide
    intro p loose mean mg mb dp un gd cn cs L a ccd cl outer base g L' s Pq B F K N T hdp hun hPq e9 A9
    (try dsimp only)
    repeat' (k_extra "S0"; k_extra "S1")
    ((rename Wo _ _ _ _ _ _ => hWo); ((try dsimp only); exact post_of _ _ rfl (by k_asm) (by k_asm) (by k_extra "SUB") (by k_extra "KEEP") (⟨_, _, rfl, (by k_extra "APM"), fun P hP => hP _ _ _ _ _ _ _ _ _ _ _ _ _ _ _ _ _ _ _ (by unfold Nts; rw [if_neg (by omega)]) (Rs.nil hz (by assumption)) hWo⟩)))
  · have hw0 : 0 < ws.length := by omega
    have hfm : (Int.fmod (ps.length : Int) (ws.length : Int)) = ((us.length % ws.length : Nat) : Int) := by rw [hpl]; exact fmod_cast _ _
    rcases Nat.eq_zero_or_pos (us.length % ws.length) with hm | hm
    · have hmb : (Int.fmod (ps.length : Int) (ws.length : Int) != 0) = false := by rw [hfm, hm]; rfl
      refine' tells_plainP (binds := [(Str.ofString "v", .ref x), (Str.ofString "places", .ref pl), (Str.ofString "added", .none), (Str.ofString "value", .ref xv), (Str.ofString "notes", .ref nt)]) ?k1 ?k2 ?k3 ?k4 ?k5 ?k6 ?k7 ?k8 ?k9 ?_
      case k1 => k_is
      case k2 => k_is
      case k3 => exact fun s => BindsTo.of_eq rfl
      case k4 => exact locs rfl
      case k5 => decide
      case k6 => rfl
      case k7 => rfl
      case k8 => rfl
      case k9 => decide
      intro p loose mean mg mb dp un gd cn cs L a ccd cl outer base g L' s Pq B F K N T hdp hun hPq e9 A9
      (try dsimp only)
      repeat' (k_extra "S0"; k_extra "S1")
      all_goals ((rename Wo _ _ _ _ _ _ => hWo); ((try dsimp only); exact post_of _ _ rfl (by k_asm) (by k_asm) (by k_extra "SUB") (by k_extra "KEEP") (⟨_, _, rfl, (by k_extra "APM"), fun P hP => hP _ _ _ _ _ _ _ _ _ _ _ _ _ _ _ _ _ _ _ (by unfold Nts; rw [if_neg (by omega)]) (Rs.of rfl (by assumption) (by assumption) hw0) hWo⟩)))
    · have hmb : (Int.fmod (ps.length : Int) (ws.length : Int) != 0) = true := by rw [hfm]; exact bne_iff_ne.mpr (by omega)
      refine' tells_plainP (binds := [(Str.ofString "v", .ref x), (Str.ofString "places", .ref pl), (Str.ofString "added", .none), (Str.ofString "value", .ref xv), (Str.ofString "notes", .ref nt)]) ?k1 ?k2 ?k3 ?k4 ?k5 ?k6 ?k7 ?k8 ?k9 ?_
      case k1 => k_is
      case k2 => k_is
      case k3 => exact fun s => BindsTo.of_eq rfl
      case k4 => exact locs rfl
      case k5 => decide
      case k6 => rfl
      case k7 => rfl
      case k8 => rfl
      case k9 => decide
      intro p loose mean mg mb dp un gd cn cs L a ccd cl outer base g L' s Pq B F K N T hdp hun hPq e9 A9
      (try dsimp only)
      repeat' (k_extra "S0"; k_extra "S1")
      all_goals ((rename Wo _ _ _ _ _ _ => hWo); ((try dsimp only); exact post_of _ _ rfl (by k_asm) (by k_asm) (by k_extra "SUB") (by k_extra "KEEP") (⟨_, _, rfl, (by k_extra "APM"), fun P hP => hP _ _ _ _ _ _ _ _ _ _ _ _ _ _ _ _ _ _ _ (by unfold Nts; rw [if_pos (by omega)]; exact ⟨_, rfl⟩) (Rs.of rfl (by assumption) (by assumption) hw0) hWo⟩)))
  )) only [↓wt]
end
section
open PySem PySem.W PyProof.Rows PySem.Calls
set_option Elab.async false
set_option maxRecDepth 100000 
set_option maxHeartbeats 8000000 
theorem kwC11_0 : True := by
  k_with_none
  k_with "MEM" => first | (with_reducible exact List.mem_cons_self) | ((with_reducible refine List.mem_cons_of_mem _ ?_); k_extra "MEM")
  k_with "ENTER" => (refine' code_defP ?zqk1 ?zqk2 ?zqk3 ?zqk4 ?zqk5 ?zqkA ?zqkF ?zqkK ?zqk6 ?zqk7 ?zqk8 ?zqk9 ?zqkB ?_ ?zqc2 ?zqc3 ?zqc4 ?zqc5; (case zqkA => exact rfl); (case zqkF => exact rfl); (case zqkK => exact rfl); (case zqk1 => k_asm); (case zqk2 => k_asm); (case zqk3 => k_asm); (case zqk4 => k_asm); (case zqk5 => k_asm); (case zqk6 => k_is); (case zqk7 => k_is); (case zqk8 => k_room); (case zqk9 => first | exact BindsTo.of_eq rfl | exact binds_K (by k_in) rfl (by k_is) rfl rfl rfl); (case zqc5 => decide); (case zqkB => exact locs rfl); (case zqc2 => exact rfl); (case zqc3 => exact rfl); (case zqc4 => exact rfl); k_whole; intro g' L' h' Q' FG' F' N' B' X' T' hQ' e9 A9; (try dsimp only); (try k_lift B'); (try k_fold))
  k_with "S0" => ((fail_if_success (with_reducible show Post _ _ _ _ _ _ _ _)); (fail_if_success (with_reducible show LoopP _ _ _ _ _ _ _ _)); (fail_if_success (with_reducible show CmpP _ _ _ _ _ _ _ _ _ _ _ _ _ _ _)))
  k_with "S1" => first | (k_unfold; (try dsimp only)) | (k_end; wrow_close) | walk1 | (with_reducible refine hand (by assumption) ?_; try dsimp only) | (dsimp only; walk1) | (leave1; try dsimp only)
  k_with "ROOM" => first | (refine' room0 ?zqh ?zqe; (case zqh => assumption); (case zqe => exact rfl)) | (refine' room1 ?zqh ?zqe; (case zqh => assumption); (case zqe => exact rfl)) | (refine' room2 ?zqh ?zqe; (case zqh => assumption); (case zqe => exact rfl)) | (refine' room3 ?zqh ?zqe; (case zqh => assumption); (case zqe => exact rfl)) | (refine' roomz ?zqh; (case zqh => assumption)) | ktr_room
  k_with "UNITS" => first | (refine' room0 ?zqh ?zqe; (case zqh => assumption); (case zqe => exact rfl)) | (refine' room1 ?zqh ?zqe; (case zqh => assumption); (case zqe => exact rfl)) | (refine' room2 ?zqh ?zqe; (case zqh => assumption); (case zqe => exact rfl)) | (refine' room3 ?zqh ?zqe; (case zqh => assumption); (case zqe => exact rfl)) | exact lt_num rfl | ktr_units
  k_with "AR" => first | assumption | exact Nat.le_max_right _ _ | exact Nat.le_max_left _ _ | exact Nat.max_lt.mpr ⟨by assumption, by assumption⟩ | (refine' le_up ?zqh ?zqe; (case zqh => assumption); (case zqe => exact rfl)) | omega
  k_with "SUT" => first | exact sub_self | (refine sub_skip ?_; k_extra "SUT")
  k_with "SUB" => first | exact sub_nil | ((with_reducible refine' sub_cons ?zqsm ?_); (case zqsm => k_mem); k_extra "SUB") | k_extra "SUT"
  k_with "SUK" => first | exact sub_nil | k_extra "SUT" | k_extra "SUB"
  k_with "KEEP" => first | (refine keep_hd (List.Mem.head _) ?_; k_extra "KEEP") | exact keep_of (by k_extra "SUK") | ((with_reducible refine' keep_cons ?zqkm ?_); (case zqkm => k_mem); k_extra "KEEP")
  k_with "APQ" => (rename Apart _ _ => h9; first | exact Apart.at h9 (by k_extra "MEM") (by k_extra "MEM") | exact ap_at h9 (by k_extra "MEM") (by k_extra "MEM") | (clear h9; k_extra "APQ"))
  k_with "ANQ" => (rename AllNe _ _ => h9; first | exact AllNe.at h9 (by k_extra "MEM") | exact an_at h9 (by k_extra "MEM") | (clear h9; k_extra "ANQ"))
  k_with "ALQ" => (rename AllLt _ _ => h9; first | exact lt_ne h9 (by k_extra "MEM") | exact lt_en h9 (by k_extra "MEM") | exact lt_ne2 h9 (by assumption) (by k_extra "MEM") | exact lt_en2 h9 (by assumption) (by k_extra "MEM") | (clear h9; k_extra "ALQ"))
  k_with "NEQ" => first | assumption | exact Ne.symm (by assumption) | exact Nat.ne_of_lt (by assumption) | exact Nat.ne_of_gt (by assumption) | k_extra "ALQ" | k_extra "ANQ" | k_extra "APQ" | omega
  k_with "APS" => (rename Apart _ _ => h9; first | exact Apart.subA h9 rfl (by k_extra "SUK") | (clear h9; k_extra "APS"))
  k_with "NE1" => (refine neN ?_; (try dsimp only); k_extra "NEQ")
  k_with "ALL" => first | exact all_nil | (rename AllLt _ _ => h9; exact lt_sub h9 (by k_extra "SUT")) | (refine' all_cons ?zqa ?zqb; (case zqa => k_ne); (case zqb => k_all))
  k_with "ALN" => first | exact ne_nil | (refine ne_cons ?_ ?_; (focus ((try dsimp only); k_extra "NEQ")); k_extra "ALN")
  k_with "APM" => first | exact ap_nil | k_extra "APS" | (refine ap_cons ?_ ?_; (focus k_extra "ALN"); k_extra "APM")
  k_with "CA" => ((case zqkB => k_asm); (case zqkF => k_asm); (case zqkX => k_asm); (case zqkN => k_asm))
  k_with "CB" => ((case zqkT => k_asm); (case zqkK => first | exact rfl | assumption); (case zqkd => k_extra "ROOM"); (case zqku => k_extra "UNITS"))
  k_with "CE" => all_goals ((try ((with_reducible rename News _ _ _ _ => h9); simp only [List.nil_append, List.cons_append] at h9)); (try ((with_reducible rename Apart [] _ => h7); clear h7)); (try dsimp only [Option.getD_some, Option.getD_none]); (try k_sweep); (try k_fold))
  k_with "CZ" => all_goals ((try dsimp only [Option.getD_some, Option.getD_none]); (try k_sweep); (try k_fold))
  k_with "call builtin:len" => (k_here; (with_reducible show wpAny _ _ (call (Value.builtin "len") [Value.ref _]) _ _ _); k_dflt (refine' len_sym ?zqk1 ?zqk2 ?zqk3 ?_; (case zqk1 => k_asm); (case zqk2 => k_mem); (case zqk3 => k_extra "AR"); k_whole))
  k_with "getMethod ref" => (k_here; (with_reducible show wpAny _ _ (getMethod (Value.ref _) (PySem.Str.ofString "get") _) _ _ _); k_dflt (refine' get_method ?zqk1 ?zqk2 ?zqk3 ?_; (case zqk1 => k_asm); (case zqk2 => k_mem); (case zqk3 => with_reducible assumption); k_whole))
  k_with "call builtin:dict.get" => (k_here; (with_reducible show wpAny _ _ (call (Value.builtin "dict.get") [Value.ref _, Value.str _ _]) _ _ _); k_dflt (refine' get_call ?zqk0 ?zqk1 ?zqk2 ?zqk3 ?_; (case zqk1 => k_asm); (case zqk2 => k_mem); (case zqk3 => with_reducible assumption); (case zqk0 => with_reducible assumption); k_whole))
  k_with "LOCA" => first | exact LocArgs.nil | (refine' LocArgs.cons ?zqlk ?zqld ?zqlv ?zqlt; (case zqlk => kernel_rfl!); (case zqld => kernel_rfl); (case zqlv => first | rfl | assumption); (case zqlt => k_extra "LOCA"))
  k_with "eval Call" => (k_here; (with_reducible show wpAny _ _ (eval (Expr.Call (Expr.Name _ _) (Expr.Name _ _ :: _) [] _) _) _ _ _); first | ((with_reducible refine' callO_loc ?zqF ?zqX ?zqT ?zqe ?zqk ?zqa ?zqb ?zqc ?zql ?_); k_dflt ((case zqF => k_asm); (case zqX => k_asm); (case zqT => k_asm); (case zqa => exact rfl); (case zqb => kernel_rfl!); (case zqc => kernel_rfl); (case zqe => k_is); (case zqk => k_is); (case zql => k_extra "LOCA"); k_whole)) | ((with_reducible refine' callC_loc ?zqF ?zqX ?zqT ?zqe ?zqk ?zqa ?zqb ?zqc ?zql ?_); k_dflt ((case zqF => k_asm); (case zqX => k_asm); (case zqT => k_asm); (case zqa => exact rfl); (case zqb => kernel_rfl!); (case zqc => kernel_rfl); (case zqe => k_is); (case zqk => k_is); (case zql => k_extra "LOCA"); k_whole)))
  k_with "eval Attribute Name" => (k_here; (with_reducible refine' attrO_loc ?zqF ?zqv ?zqa ?zqb ?zqc ?_); k_dflt ((case zqF => k_asm); (case zqa => exact rfl); (case zqb => kernel_rfl!); (case zqc => kernel_rfl); (case zqv => first | rfl | assumption); k_whole))
  k_with "ite" => (k_here; first | (k_closed; first | ((with_reducible refine ite_pos ?zqk2 ?_); k_dflt (case zqk2 => decide)) | ((with_reducible refine ite_neg ?zqk2 ?_); k_dflt (case zqk2 => decide))) | (refine' ite_bf ?zqk1 ?_; (case zqk1 => first | assumption | exact decide_eq_false (by omega) | exact beq_eq_false_iff_ne.mpr (by omega))) | (refine' ite_bt ?zqk1 ?_; (case zqk1 => first | assumption | exact decide_eq_true (by omega) | exact beq_iff_eq.mpr (by omega))))
  k_with "call type:dict" => (k_here; (with_reducible show wpAny _ _ (call (Value.type "dict") [Value.ref _]) _ _ _); k_dflt (refine' dict_copyK ?zqF ?zqN ?zqb ?zqm ?zqD ?zql ?zqz ?_; (case zqF => k_asm); (case zqN => k_asm); (case zqb => exact Top.nolimit (by k_asm)); (case zqm => k_mem); (case zqD => with_reducible assumption); (case zql => with_reducible assumption); (case zqz => omega); k_whole); intro d' h' o' F' N' l1 lo' hd'; (try k_lt l1))
  k_with "OWN" => (intro p9 hp9; repeat' (first | exact hp9 | refine List.mem_append.mpr (Or.inr ?_) | refine List.mem_cons_of_mem _ ?_))
  k_with "eval Name" => (k_here; first | ((with_reducible refine' nameO_L ?zqF ?zqv ?_ ?zqa ?zqb ?zqc); k_dflt ((case zqF => k_asm); (case zqa => exact rfl); (case zqb => kernel_rfl!); (case zqc => kernel_rfl); (case zqv => first | rfl | assumption); k_whole)) | ((with_reducible refine' nameO_K ?zqF ?zqX ?zqT ?zqe ?_ ?zqa ?zqb ?zqc); k_dflt ((case zqF => k_asm); (case zqX => k_asm); (case zqT => k_asm); (case zqa => exact rfl); (case zqb => kernel_rfl!); (case zqc => kernel_rfl); (case zqe => k_is); k_whole)) | ((with_reducible refine' nameC_L ?zqF ?zqv ?_ ?zqa ?zqb ?zqc); k_dflt ((case zqF => k_asm); (case zqa => exact rfl); (case zqb => kernel_rfl!); (case zqc => kernel_rfl); (case zqv => first | rfl | assumption); k_whole)) | ((with_reducible refine' nameC_K ?zqF ?zqX ?zqT ?zqe ?_ ?zqa ?zqb ?zqc); k_dflt ((case zqF => k_asm); (case zqX => k_asm); (case zqT => k_asm); (case zqa => exact rfl); (case zqb => kernel_rfl!); (case zqc => kernel_rfl); (case zqe => k_is); k_whole)))
  trivial
theorem kwC11_1 : True := by
  k_with "call ref" => (k_here; (with_reducible show wpAny _ _ (call (Value.ref 697) _) _ _ _); k_dflt (refine' tells_call0 (valvec_tells) ?zqkB ?zqkF ?zqkX ?zqkN ?zqkS ?zqkT ?zqkK ?zqkd ?zqku ?_; k_extra "CA"; (case zqkS => k_extra "SUK"); k_extra "CB"; k_whole; intro  h' tk' F' N'; k_extra "CZ"))
  k_with "call ref" => (k_here; (with_reducible show wpAny _ _ (call (Value.ref 221) _) _ _ _); k_dflt (refine' tells_call0 (names_any ?zqhi ?zqhDr) ?zqkB ?zqkF ?zqkX ?zqkN ?zqkS ?zqkT ?zqkK ?zqkd ?zqku ?_; k_extra "CA"; (case zqhDr => with_reducible assumption); (case zqkS => k_extra "SUK"); (case zqhi => with_reducible assumption); k_extra "CB"; k_whole; intro v9Z h' tk' F' N'; k_extra "CZ"))
  k_with "call ref" => (k_here; (with_reducible show wpAny _ _ (call (Value.ref 725) _) _ _ _); k_dflt (refine' tells_call0 (check_tells ?zqhI ?zqhwl) ?zqkB ?zqkF ?zqkX ?zqkN ?zqkS ?zqkT ?zqkK ?zqkd ?zqku ?_; k_extra "CA"; (case zqkS => k_extra "SUK"); (case zqhI => with_reducible assumption); (case zqhwl => k_extra "AR"); k_extra "CB"; k_whole; intro  h' tk' F' N'; k_extra "CZ"))
  k_with "call ref" => (k_here; (with_reducible show wpAny _ _ (call (Value.ref 704) _) _ _ _); k_dflt (refine' tells_call0 (assigned_tells ?zqhi ?zqhj) ?zqkB ?zqkF ?zqkX ?zqkN ?zqkS ?zqkT ?zqkK ?zqkd ?zqku ?_; k_extra "CA"; (case zqkS => k_extra "SUK"); (case zqhi => assumption); (case zqhj => assumption); k_extra "CB"; k_whole; intro t9Z h' tk' F' N'; k_extra "CZ"))
  trivial
theorem places_raise {w : World} {x d da xd dd ld : Addr} {t1 t2 t3 t4 t5 kt : Tok} {i : Nat} {av sh lo : Value} {n1 li n2 : Nat} {us : List Value} {o ex ed el : Obj} {kvs : List (Str × Value)} {j pl nt n3 n4 : Nat} {ps : List Value} {xv dv lv : Addr} {v1 v2 v3 v4 v5 vt : Tok} {vsh vlo : Value} {m1 m2 : Nat} {ws : List Value} (hi : i < 3) (hDr : Dr w av da o kvs xd dd ld ex ed el) (hj : j < 3) (hI : IntsAre ps (rangeKs 0 us.length)) (hu0 : 0 < us.length) (hw0 : ws.length = 0) (hlen : us.length ≤ 600) :
    TellsX w 11 746 [.ref x, .ref pl, .none, .ref xv, .ref nt] [(x, instObj 113 d), (d, dictOf (vd w.params t1 t2 t3 t4 t5 (.str (kS i) kt) (.ref li) av sh lo) n1), (da, o), (xd, ex), (dd, ed), (ld, el), (li, listOf us.toArray n2), (xv, instObj 113 dv), (dv, dictOf (vd w.params v1 v2 v3 v4 v5 (.str (kS j) vt) (.ref lv) .none vsh vlo) m1), (lv, listOf ws.toArray m2), (pl, listOf ps.toArray n3), (nt, listOf ([] : List Value).toArray n4)] (Str.ofString "replacement has length zero") := by
  refine wo ?_
  simp (disch :=
  k_dflt (
  refine wk ?_
  have hpl : ps.length = us.length := by rw [hI.length, rangeKs_length]
  refine' raises_plain (binds := [(Str.ofString "v", .ref x), (Str.ofString "places", .ref pl), (Str.ofString "added", .none), (Str.ofString "value", .ref xv), (Str.ofString "notes", .ref nt)]) ?k1 ?k2 ?k3 ?k4 ?k5 ?k6 ?k7 ?k8 ?k9 ?_
  case k1 => k_is
  case k2 => k_is
  case k3 => exact fun s => BindsTo.of_eq rfl
  case k4 => exact locs rfl
  case k5 => decide
  case k6 => rfl
  case k7 => rfl
  case k8 => rfl
  case k9 => decide
  intro p loose mean mg mb dp un gd cn cs L a ccd cl outer base H0 L' s B F K N T hdp hun hN0 hL0
  generalize hg : hideAll H0 _ = g at B F K N T
  (try dsimp only)
  repeat' ((fail_if_success (with_reducible show wpAny _ _ (exec (Stmt.Raise _ _ _) _) _ _ _)); k_extra "S0"; k_extra "S1")
  k_dflt (refine' raise_refusal (w := w) ?B ?F ?X ?N ?T ?k ?x ?d ?u ?ne ?_)
  case B => k_asm
  case F => k_asm
  case X => k_asm
  case N => k_asm
  case T => k_asm
  case k => rfl
  case x => rfl
  case d => k_extra "ROOM"
  case u => k_extra "UNITS"
  case ne => k_is
  intro h9 e9 D9 t09 tk9 tm9 tk8 z1 z2 z3 z4 z5
  subst hg
  exact boom_made B (by k_asm) rfl rfl rfl (kept hN0 (by k_asm) (by k_asm) (by k_extra "SUB")) hL0 z1 z2 z3 z4 z5
  )) only [↓wt]
end
section
open PySem PySem.W PyProof.Rows PySem.Calls
set_option Elab.async false
set_option maxRecDepth 100000 
set_option maxHeartbeats 8000000 
theorem kwC12_0 : True := by
  k_with_none
  k_with "MEM" => first | (with_reducible exact List.mem_cons_self) | ((with_reducible refine List.mem_cons_of_mem _ ?_); k_extra "MEM")
  k_with "ENTER" => (refine' code_defP ?zqk1 ?zqk2 ?zqk3 ?zqk4 ?zqk5 ?zqkA ?zqkF ?zqkK ?zqk6 ?zqk7 ?zqk8 ?zqk9 ?zqkB ?_ ?zqc2 ?zqc3 ?zqc4 ?zqc5; (case zqkA => exact rfl); (case zqkF => exact rfl); (case zqkK => exact rfl); (case zqk1 => k_asm); (case zqk2 => k_asm); (case zqk3 => k_asm); (case zqk4 => k_asm); (case zqk5 => k_asm); (case zqk6 => k_is); (case zqk7 => k_is); (case zqk8 => k_room); (case zqk9 => first | exact BindsTo.of_eq rfl | exact binds_K (by k_in) rfl (by k_is) rfl rfl rfl); (case zqc5 => decide); (case zqkB => exact locs rfl); (case zqc2 => exact rfl); (case zqc3 => exact rfl); (case zqc4 => exact rfl); k_whole; intro g' L' h' Q' FG' F' N' B' X' T' hQ' e9 A9; (try dsimp only); (try k_lift B'); (try k_fold))
  k_with "S0" => ((fail_if_success (with_reducible show Post _ _ _ _ _ _ _ _)); (fail_if_success (with_reducible show LoopP _ _ _ _ _ _ _ _)); (fail_if_success (with_reducible show CmpP _ _ _ _ _ _ _ _ _ _ _ _ _ _ _)))
  k_with "S1" => first | (k_unfold; (try dsimp only)) | (k_end; wrow_close) | walk1 | (with_reducible refine hand (by assumption) ?_; try dsimp only) | (dsimp only; walk1) | (leave1; try dsimp only)
  k_with "ROOM" => first | (refine' room0 ?zqh ?zqe; (case zqh => assumption); (case zqe => exact rfl)) | (refine' room1 ?zqh ?zqe; (case zqh => assumption); (case zqe => exact rfl)) | (refine' room2 ?zqh ?zqe; (case zqh => assumption); (case zqe => exact rfl)) | (refine' room3 ?zqh ?zqe; (case zqh => assumption); (case zqe => exact rfl)) | (refine' roomz ?zqh; (case zqh => assumption)) | ktr_room
  k_with "UNITS" => first | (refine' room0 ?zqh ?zqe; (case zqh => assumption); (case zqe => exact rfl)) | (refine' room1 ?zqh ?zqe; (case zqh => assumption); (case zqe => exact rfl)) | (refine' room2 ?zqh ?zqe; (case zqh => assumption); (case zqe => exact rfl)) | (refine' room3 ?zqh ?zqe; (case zqh => assumption); (case zqe => exact rfl)) | exact lt_num rfl | ktr_units
  k_with "AR" => first | assumption | exact Nat.le_max_right _ _ | exact Nat.le_max_left _ _ | exact Nat.max_lt.mpr ⟨by assumption, by assumption⟩ | (refine' le_up ?zqh ?zqe; (case zqh => assumption); (case zqe => exact rfl)) | omega
  k_with "SUT" => first | exact sub_self | (refine sub_skip ?_; k_extra "SUT")
  k_with "SUB" => first | exact sub_nil | ((with_reducible refine' sub_cons ?zqsm ?_); (case zqsm => k_mem); k_extra "SUB") | k_extra "SUT"
  k_with "SUK" => first | exact sub_nil | k_extra "SUT" | k_extra "SUB"
  k_with "KEEP" => first | (refine keep_hd (List.Mem.head _) ?_; k_extra "KEEP") | exact keep_of (by k_extra "SUK") | ((with_reducible refine' keep_cons ?zqkm ?_); (case zqkm => k_mem); k_extra "KEEP")
  k_with "APQ" => (rename Apart _ _ => h9; first | exact Apart.at h9 (by k_extra "MEM") (by k_extra "MEM") | exact ap_at h9 (by k_extra "MEM") (by k_extra "MEM") | (clear h9; k_extra "APQ"))
  k_with "ANQ" => (rename AllNe _ _ => h9; first | exact AllNe.at h9 (by k_extra "MEM") | exact an_at h9 (by k_extra "MEM") | (clear h9; k_extra "ANQ"))
  k_with "ALQ" => (rename AllLt _ _ => h9; first | exact lt_ne h9 (by k_extra "MEM") | exact lt_en h9 (by k_extra "MEM") | exact lt_ne2 h9 (by assumption) (by k_extra "MEM") | exact lt_en2 h9 (by assumption) (by k_extra "MEM") | (clear h9; k_extra "ALQ"))
  k_with "NEQ" => first | assumption | exact Ne.symm (by assumption) | exact Nat.ne_of_lt (by assumption) | exact Nat.ne_of_gt (by assumption) | k_extra "ALQ" | k_extra "ANQ" | k_extra "APQ" | omega
  k_with "APS" => (rename Apart _ _ => h9; first | exact Apart.subA h9 rfl (by k_extra "SUK") | (clear h9; k_extra "APS"))
  k_with "NE1" => (refine neN ?_; (try dsimp only); k_extra "NEQ")
  k_with "ALL" => first | exact all_nil | (rename AllLt _ _ => h9; exact lt_sub h9 (by k_extra "SUT")) | (refine' all_cons ?zqa ?zqb; (case zqa => k_ne); (case zqb => k_all))
  k_with "ALN" => first | exact ne_nil | (refine ne_cons ?_ ?_; (focus ((try dsimp only); k_extra "NEQ")); k_extra "ALN")
  k_with "APM" => first | exact ap_nil | k_extra "APS" | (refine ap_cons ?_ ?_; (focus k_extra "ALN"); k_extra "APM")
  k_with "CA" => ((case zqkB => k_asm); (case zqkF => k_asm); (case zqkX => k_asm); (case zqkN => k_asm))
  k_with "CB" => ((case zqkT => k_asm); (case zqkK => first | exact rfl | assumption); (case zqkd => k_extra "ROOM"); (case zqku => k_extra "UNITS"))
  k_with "CE" => all_goals ((try ((with_reducible rename News _ _ _ _ => h9); simp only [List.nil_append, List.cons_append] at h9)); (try ((with_reducible rename Apart [] _ => h7); clear h7)); (try dsimp only [Option.getD_some, Option.getD_none]); (try k_sweep); (try k_fold))
  k_with "CZ" => all_goals ((try dsimp only [Option.getD_some, Option.getD_none]); (try k_sweep); (try k_fold))
  k_with "call builtin:len" => (k_here; (with_reducible show wpAny _ _ (call (Value.builtin "len") [Value.ref _]) _ _ _); k_dflt (refine' len_sym ?zqk1 ?zqk2 ?zqk3 ?_; (case zqk1 => k_asm); (case zqk2 => k_mem); (case zqk3 => k_extra "AR"); k_whole))
  k_with "getMethod ref" => (k_here; (with_reducible show wpAny _ _ (getMethod (Value.ref _) (PySem.Str.ofString "get") _) _ _ _); k_dflt (refine' get_method ?zqk1 ?zqk2 ?zqk3 ?_; (case zqk1 => k_asm); (case zqk2 => k_mem); (case zqk3 => with_reducible assumption); k_whole))
  k_with "call builtin:dict.get" => (k_here; (with_reducible show wpAny _ _ (call (Value.builtin "dict.get") [Value.ref _, Value.str _ _]) _ _ _); k_dflt (refine' get_call ?zqk0 ?zqk1 ?zqk2 ?zqk3 ?_; (case zqk1 => k_asm); (case zqk2 => k_mem); (case zqk3 => with_reducible assumption); (case zqk0 => with_reducible assumption); k_whole))
  k_with "LOCA" => first | exact LocArgs.nil | (refine' LocArgs.cons ?zqlk ?zqld ?zqlv ?zqlt; (case zqlk => kernel_rfl!); (case zqld => kernel_rfl); (case zqlv => first | rfl | assumption); (case zqlt => k_extra "LOCA"))
  k_with "eval Call" => (k_here; (with_reducible show wpAny _ _ (eval (Expr.Call (Expr.Name _ _) (Expr.Name _ _ :: _) [] _) _) _ _ _); first | ((with_reducible refine' callO_loc ?zqF ?zqX ?zqT ?zqe ?zqk ?zqa ?zqb ?zqc ?zql ?_); k_dflt ((case zqF => k_asm); (case zqX => k_asm); (case zqT => k_asm); (case zqa => exact rfl); (case zqb => kernel_rfl!); (case zqc => kernel_rfl); (case zqe => k_is); (case zqk => k_is); (case zql => k_extra "LOCA"); k_whole)) | ((with_reducible refine' callC_loc ?zqF ?zqX ?zqT ?zqe ?zqk ?zqa ?zqb ?zqc ?zql ?_); k_dflt ((case zqF => k_asm); (case zqX => k_asm); (case zqT => k_asm); (case zqa => exact rfl); (case zqb => kernel_rfl!); (case zqc => kernel_rfl); (case zqe => k_is); (case zqk => k_is); (case zql => k_extra "LOCA"); k_whole)))
  k_with "eval Attribute Name" => (k_here; (with_reducible refine' attrO_loc ?zqF ?zqv ?zqa ?zqb ?zqc ?_); k_dflt ((case zqF => k_asm); (case zqa => exact rfl); (case zqb => kernel_rfl!); (case zqc => kernel_rfl); (case zqv => first | rfl | assumption); k_whole))
  k_with "ite" => (k_here; first | (k_closed; first | ((with_reducible refine ite_pos ?zqk2 ?_); k_dflt (case zqk2 => decide)) | ((with_reducible refine ite_neg ?zqk2 ?_); k_dflt (case zqk2 => decide))) | (refine' ite_bf ?zqk1 ?_; (case zqk1 => first | assumption | exact decide_eq_false (by omega) | exact beq_eq_false_iff_ne.mpr (by omega))) | (refine' ite_bt ?zqk1 ?_; (case zqk1 => first | assumption | exact decide_eq_true (by omega) | exact beq_iff_eq.mpr (by omega))))
  k_with "call type:dict" => (k_here; (with_reducible show wpAny _ _ (call (Value.type "dict") [Value.ref _]) _ _ _); k_dflt (refine' dict_copyK ?zqF ?zqN ?zqb ?zqm ?zqD ?zql ?zqz ?_; (case zqF => k_asm); (case zqN => k_asm); (case zqb => exact Top.nolimit (by k_asm)); (case zqm => k_mem); (case zqD => with_reducible assumption); (case zql => with_reducible assumption); (case zqz => omega); k_whole); intro d' h' o' F' N' l1 lo' hd'; (try k_lt l1))
  k_with "OWN" => (intro p9 hp9; repeat' (first | exact hp9 | refine List.mem_append.mpr (Or.inr ?_) | refine List.mem_cons_of_mem _ ?_))
  k_with "eval Name" => (k_here; first | ((with_reducible refine' nameO_L ?zqF ?zqv ?_ ?zqa ?zqb ?zqc); k_dflt ((case zqF => k_asm); (case zqa => exact rfl); (case zqb => kernel_rfl!); (case zqc => kernel_rfl); (case zqv => first | rfl | assumption); k_whole)) | ((with_reducible refine' nameO_K ?zqF ?zqX ?zqT ?zqe ?_ ?zqa ?zqb ?zqc); k_dflt ((case zqF => k_asm); (case zqX => k_asm); (case zqT => k_asm); (case zqa => exact rfl); (case zqb => kernel_rfl!); (case zqc => kernel_rfl); (case zqe => k_is); k_whole)) | ((with_reducible refine' nameC_L ?zqF ?zqv ?_ ?zqa ?zqb ?zqc); k_dflt ((case zqF => k_asm); (case zqa => exact rfl); (case zqb => kernel_rfl!); (case zqc => kernel_rfl); (case zqv => first | rfl | assumption); k_whole)) | ((with_reducible refine' nameC_K ?zqF ?zqX ?zqT ?zqe ?_ ?zqa ?zqb ?zqc); k_dflt ((case zqF => k_asm); (case zqX => k_asm); (case zqT => k_asm); (case zqa => exact rfl); (case zqb => kernel_rfl!); (case zqc => kernel_rfl); (case zqe => k_is); k_whole)))
  trivial
theorem kwC12_1 : True := by
  k_with "call ref" => (k_here; (with_reducible show wpAny _ _ (call (Value.ref 221) _) _ _ _); k_dflt (refine' tells_call0 (names_any ?zqhi ?zqhDr) ?zqkB ?zqkF ?zqkX ?zqkN ?zqkS ?zqkT ?zqkK ?zqkd ?zqku ?_; k_extra "CA"; (case zqhDr => with_reducible assumption); (case zqkS => k_extra "SUK"); (case zqhi => with_reducible assumption); k_extra "CB"; k_whole; intro v9Z h' tk' F' N'; k_extra "CZ"))
  k_with "call ref" => (k_here; (with_reducible show wpAny _ _ (call (Value.ref 593) _) _ _ _); k_dflt (refine' tells_callG (positions_tells ?zqhn) ?zqkB ?zqkF ?zqkX ?zqkN ?zqkS ?zqkT ?zqkK ?zqkd ?zqku ?_; k_extra "CA"; (case zqkS => k_extra "SUK"); (case zqhn => k_extra "AR"); k_extra "CB"; k_whole; intro T9Z pl9Z nl9Z n09Z ps9Z hI9Z hTp9Z h' tk' F' N' A'; have hpn9 := hI9Z.length; rw [rangeKs_length] at hpn9; k_extra "CE"))
  k_with "call ref" => (k_here; (with_reducible show wpAny _ _ (call (Value.ref 648) _) _ _ _); k_dflt (refine' tells_call0 (listk_tells ?zqhi) ?zqkB ?zqkF ?zqkX ?zqkN ?zqkS ?zqkT ?zqkK ?zqkd ?zqku ?_; k_extra "CA"; (case zqkS => k_extra "SUK"); (case zqhi => assumption); k_extra "CB"; k_whole; intro  h' tk' F' N'; k_extra "CZ"))
  trivial
def vecDef : Stmt := PySem.Challenge.pw_pq1344_01.main.body.getD 109 (.Pass ⟨0, 0, 0, 0⟩)
def vecBody : List Stmt := match vecDef with
  | .FunctionDef _ _ body _ _ _ _ _ _ _ => body
  | _ => []
def vecScope : Scope := match vecDef with
  | .FunctionDef _ _ _ _ _ _ scope _ _ _ => scope
  | _ => default
theorem news_part {h₀ h : Heap} {L : Addr} {news nw : List (Addr × Obj)} (N : News h₀ L h news) (hs : ∀ q ∈ nw, q ∈ news) : News h₀ L h nw := fun q hq => N q (hs q hq)
/-- assign_vector's first two statements, walked once -/
theorem vec_walk {w : World} {x d da xd dd ld : Addr} {t1 t2 t3 t4 t5 kt : Tok} {i : Nat} {av sh lo : Value} {n1 li n2 : Nat} {us : List Value} {o ex ed el : Obj} {kvs : List (Str × Value)} {ix dm : Addr} {y1 y2 y3 : Tok} {n9 : Nat} {xv nt : Addr} {vs : List (Addr × Obj)} {p : Program} {loose : List Str} {mean : ExcName → Option Value} {mg mb : Str → Option Value} {dp un : Nat} {gd : Option (List Code)} {cn : Str} {cs : Scope} {L a : Addr} {ccd cd : Value} {cl : List (Str × Addr)} {outer : List Env} {base g : Heap} {L' : Addr} {s : Shared} {Q : Flow → Shared → Prop} {E : Value → Shared → Prop} (hi : i < 3) (hDr : Dr w av da o kvs xd dd ld ex ed el) (hlen : us.length ≤ 600)
    (B : Below (ktrTop dp un gd cn cs L a ccd cl outer) base (envX cn cs L a ccd cl :: outer) g) (F : Fr g L' s.heap (fun y => ([(Str.ofString "v", .ref x), (Str.ofString "ix", .ref ix), (Str.ofString "value", .ref xv), (Str.ofString "notes", .ref nt)] : List (Str × Value)).reverse.lookup y)) (K : (fragK.heap_1 w.params).In g) (N : News g L' s.heap ((ix, instObj 84 dm) :: (dm, dictOf [ent w.params (Str.ofString "kind") y1 (.str (Str.ofString "missing") y2), ent w.params (Str.ofString "attrs") y3 .none] n9) :: (x, instObj 113 d) :: (d, dictOf (vd w.params t1 t2 t3 t4 t5 (.str (kS i) kt) (.ref li) av sh lo) n1) :: (da, o) :: (xd, ex) :: (dd, ed) :: (ld, el) :: (li, listOf us.toArray n2) :: vs)) (T : Top p loose mean mg mb g) (hdp : dp + 13 < recursionLimit) (hun : un + 8 * 13 < cLine)
    (h : ∀ TT pl nl n0, ∀ ps : List Value, ∀ h' tk' m', IntsAre ps (rangeKs 0 us.length) → Fr g L' h' m' → m' (Str.ofString "v") = some (.ref x) → m' (Str.ofString "value") = some (.ref xv) → m' (Str.ofString "notes") = some (.ref nt) → m' (Str.ofString "places") = some (.ref pl) → m' (Str.ofString "added") = some .none →
      News g L' h' ((TT, { cls := .type "tuple", data := .seq #[.ref pl, .none] n0 }) :: (pl, listOf ps.toArray nl) :: (ix, instObj 84 dm) :: (dm, dictOf [ent w.params (Str.ofString "kind") y1 (.str (Str.ofString "missing") y2), ent w.params (Str.ofString "attrs") y3 .none] n9) :: (x, instObj 113 d) :: (d, dictOf (vd w.params t1 t2 t3 t4 t5 (.str (kS i) kt) (.ref li) av sh lo) n1) :: (da, o) :: (xd, ex) :: (dd, ed) :: (ld, el) :: (li, listOf us.toArray n2) :: vs) → Apart [(TT, { cls := .type "tuple", data := .seq #[.ref pl, .none] n0 }), (pl, listOf ps.toArray nl)] ((ix, instObj 84 dm) :: (dm, dictOf [ent w.params (Str.ofString "kind") y1 (.str (Str.ofString "missing") y2), ent w.params (Str.ofString "attrs") y3 .none] n9) :: (x, instObj 113 d) :: (d, dictOf (vd w.params t1 t2 t3 t4 t5 (.str (kS i) kt) (.ref li) av sh lo) n1) :: (da, o) :: (xd, ex) :: (dd, ed) :: (ld, el) :: (li, listOf us.toArray n2) :: vs) → wpAny (model PySem.Challenge.rw_pq1344_01.row.prog w) ((ktrTop dp un gd cn cs L a ccd cl outer).deeper (envOf (Str.ofString "assign_vector") vecScope L' 753 cd)) (execs (vecBody.drop 2) (envOf (Str.ofString "assign_vector") vecScope L' 753 cd)) Q E { s with heap := h', toks := tk' }) :
    wpAny (model PySem.Challenge.rw_pq1344_01.row.prog w) ((ktrTop dp un gd cn cs L a ccd cl outer).deeper (envOf (Str.ofString "assign_vector") vecScope L' 753 cd)) (execs vecBody (envOf (Str.ofString "assign_vector") vecScope L' 753 cd)) Q E s := by
  refine wo ?_
  simp (disch :=
  k_dflt (
  refine wk ?_
  have eS : vecScope = ⟨_, _, _, _, _⟩ := rfl
  (try dsimp only at eS)
  rw [eS] at h ⊢
  clear eS
  show wpAny _ _ (execs (_ :: _ :: _ :: _ :: []) _) _ _ _
  obtain ⟨a1, a2, a3, a4, a5, a6⟩ := kS_no hi
  have hLi : ([Str.ofString "list", Str.ofString "expression", Str.ofString "pairlist"].any fun x => x == kS i) = false := by rcases three hi with rfl | rfl | rfl <;> decide
  repeat' ((fail_if_success (with_reducible show wpAny _ _ (execs (Stmt.If _ _ _ _ :: Stmt.Return _ _ :: []) _) _ _ _)); k_extra "S0"; k_extra "S1")
  (try dsimp only)
  (rename Fr _ _ _ _ => F9)
  (rename News _ _ _ _ => N9)
  exact h _ _ _ _ _ _ _ _ (by assumption) F9 rfl rfl rfl rfl rfl (news_part N9 (by k_extra "SUB")) (by k_extra "APM")
  )) only [↓wt]
theorem kwC12_2 : True := by
  k_with "call ref" => (k_here; (with_reducible show wpAny _ _ (call (Value.ref 746) _) _ _ _); k_dflt (refine' tells_callGU (places_tells ?zqhi ?zqhDr ?zqhj ?zqhlo ?zqhus ?zqhlen ?zqhws ?zqhwl ?zqhI ?zqhok ?zqhnt) ?zqkB ?zqkF ?zqkX ?zqkN ?zqkS ?zqkU ?zqkT ?zqkK ?zqkd ?zqku ?_; k_extra "CA"; (case zqhDr => with_reducible assumption); (case zqhI => with_reducible assumption); (case zqkS => k_extra "SUK"); (case zqkU => k_updF); (case zqhi => with_reducible assumption); (case zqhj => with_reducible assumption); (case zqhlo => exact rfl); (case zqhus => assumption); (case zqhlen => k_extra "AR"); (case zqhws => assumption); (case zqhwl => k_extra "AR"); (case zqhok => assumption); (case zqhnt => (refine' AllNe.of fun q hq => ?_; revert q; k_extra "ALN")); k_extra "CB"; k_whole; intro x9Z d9Z l9Z da9Z n9Z n8Z n7Z a9Z o9Z u9Z ns9Z s91Z s92Z s93Z s94Z s95Z s96Z s97Z t9Z hNt9Z hRs9Z hWo9Z h' tk' F' N' A'; (try dsimp only at N'); k_extra "CE"))
  trivial
theorem vec_ok {w : World} {x d da xd dd ld : Addr} {t1 t2 t3 t4 t5 kt : Tok} {i : Nat} {av sh lo : Value} {n1 li n2 : Nat} {us : List Value} {o ex ed el : Obj} {kvs : List (Str × Value)} {ix dm : Addr} {y1 y2 y3 : Tok} {n9 : Nat} {j nt n4 : Nat} {xv dv lv : Addr} {v1 v2 v3 v4 v5 vt : Tok} {vsh vlo : Value} {m1 m2 : Nat} {ws : List Value} (hi : i < 3) (hDr : Dr w av da o kvs xd dd ld ex ed el) (hj : j < 3) (hlo9 : lo = .bool false) (hus : ∀ u ∈ us, Okv i u) (hlen : us.length ≤ 600) (hws : ∀ u ∈ ws, Okv j u) (hwl : ws.length ≤ 600) (hok : us.length = 0 ∨ 0 < ws.length) (hnt : AllNe nt [(ix, instObj 84 dm), (dm, dictOf [ent w.params (Str.ofString "kind") y1 (.str (Str.ofString "missing") y2), ent w.params (Str.ofString "attrs") y3 .none] n9), (x, instObj 113 d), (d, dictOf (vd w.params t1 t2 t3 t4 t5 (.str (kS i) kt) (.ref li) av sh lo) n1), (da, o), (xd, ex), (dd, ed), (ld, el), (li, listOf us.toArray n2), (xv, instObj 113 dv), (dv, dictOf (vd w.params v1 v2 v3 v4 v5 (.str (kS j) vt) (.ref lv) .none vsh vlo) m1), (lv, listOf ws.toArray m2)]) :
    Tells w 13 753 [.ref x, .ref ix, .ref xv, .ref nt] [(ix, instObj 84 dm), (dm, dictOf [ent w.params (Str.ofString "kind") y1 (.str (Str.ofString "missing") y2), ent w.params (Str.ofString "attrs") y3 .none] n9), (x, instObj 113 d), (d, dictOf (vd w.params t1 t2 t3 t4 t5 (.str (kS i) kt) (.ref li) av sh lo) n1), (da, o), (xd, ex), (dd, ed), (ld, el), (li, listOf us.toArray n2), (xv, instObj 113 dv), (dv, dictOf (vd w.params v1 v2 v3 v4 v5 (.str (kS j) vt) (.ref lv) .none vsh vlo) m1), (lv, listOf ws.toArray m2), (nt, listOf ([] : List Value).toArray n4)] [nt] (GivesU nt [(ix, instObj 84 dm), (dm, dictOf [ent w.params (Str.ofString "kind") y1 (.str (Str.ofString "missing") y2), ent w.params (Str.ofString "attrs") y3 .none] n9), (x, instObj 113 d), (d, dictOf (vd w.params t1 t2 t3 t4 t5 (.str (kS i) kt) (.ref li) av sh lo) n1), (da, o), (xd, ex), (dd, ed), (ld, el), (li, listOf us.toArray n2), (xv, instObj 113 dv), (dv, dictOf (vd w.params v1 v2 v3 v4 v5 (.str (kS j) vt) (.ref lv) .none vsh vlo) m1), (lv, listOf ws.toArray m2), (nt, listOf ([] : List Value).toArray n4)] fun P => ∀ x' d' l' da' n' n8 n9 av' o'', ∀ us' ns : List Value, ∀ s1 s2 s3 s4 s5 s6 s7 t', Nts us.length ws.length ns → Rs j (max i j) us ws us' → Wo w av kvs av' da' o'' → P (.ref x') (listOf ns.toArray n9) [(x', instObj 113 d'), (d', dictOf (vd w.params s1 s2 s3 s4 s5 (.str (kS (max i j)) t') (.ref l') av' s6 s7) n8), (l', listOf us'.toArray n'), (da', o'')]) := by
  refine wo ?_
  simp (disch :=
  k_dflt (
  refine wk ?_
  subst hlo9
  obtain ⟨a1, a2, a3, a4, a5, a6⟩ := kS_no hi
  have hLi : ([Str.ofString "list", Str.ofString "expression", Str.ofString "pairlist"].any fun x => x == kS i) = false := by rcases three hi with rfl | rfl | rfl <;> decide
  obtain ⟨b1, b2, b3, b4, b5, b6⟩ := kS_no hj
  refine' tells_plainP (binds := [(Str.ofString "v", .ref x), (Str.ofString "ix", .ref ix), (Str.ofString "value", .ref xv), (Str.ofString "notes", .ref nt)]) ?k1 ?k2 ?k3 ?k4 ?k5 ?k6 ?k7 ?k8 ?k9 ?_
  case k1 => k_is
  case k2 => k_is
  case k3 => exact fun s => BindsTo.of_eq rfl
  case k4 => exact locs rfl
  case k5 => decide
  case k6 => rfl
  case k7 => rfl
  case k8 => rfl
  case k9 => decide
  intro p loose mean mg mb dp un gd cn cs L a ccd cl outer base g L' s Pq B F K N T hdp hun hPq e9 A9
  (try dsimp only)
  refine vec_walk (vs := _) hi hDr (by omega) B F K N T hdp hun ?_
  clear F N
  intro T9 pl9 nl9 n09 ps9 h' tk' m' hI9 F hm1 hm2 hm3 hm4 hm5 N hA9
  have hpn9 := hI9.length
  rw [rangeKs_length] at hpn9
  show wpAny _ _ (execs (_ :: _ :: []) _) _ _ _
  repeat' (k_extra "S0"; k_extra "S1")
  (rename Wo _ _ _ _ _ _ => hWo); (rename Rs _ _ _ _ _ => hRs); (rename Nts _ _ _ => hNt); ((try dsimp only); exact post_of _ _ rfl (by k_asm) (by k_asm) (by k_extra "SUB") (by k_extra "KEEP") (⟨_, _, rfl, (by k_extra "APM"), fun P hP => hP _ _ _ _ _ _ _ _ _ _ _ _ _ _ _ _ _ _ _ hNt hRs hWo⟩))
  )) only [↓wt]
theorem kwC12_3 : True := by
  k_with "call ref" => (k_here; (with_reducible show wpAny _ _ (call (Value.ref 746) _) _ _ _); k_dflt (refine' tellsX_call (places_raise ?zqhi ?zqhDr ?zqhj ?zqhI ?zqhu0 ?zqhw0 ?zqhlen) ?zqkB ?zqkF ?zqkX ?zqkN ?zqkS ?zqkT ?zqkK ?zqkd ?zqku ?_; k_extra "CA"; (case zqhDr => with_reducible assumption); (case zqhI => with_reducible assumption); (case zqkS => k_extra "SUK"); (case zqhi => with_reducible assumption); (case zqhj => with_reducible assumption); (case zqhu0 => k_extra "AR"); (case zqhw0 => k_extra "AR"); (case zqhlen => k_extra "AR"); k_extra "CB"; k_whole; intro e' D' tk' tm' h' tk'' R'))
  trivial
theorem vec_raise {w : World} {x d da xd dd ld : Addr} {t1 t2 t3 t4 t5 kt : Tok} {i : Nat} {av sh lo : Value} {n1 li n2 : Nat} {us : List Value} {o ex ed el : Obj} {kvs : List (Str × Value)} {ix dm : Addr} {y1 y2 y3 : Tok} {n9 : Nat} {j nt n4 : Nat} {xv dv lv : Addr} {v1 v2 v3 v4 v5 vt : Tok} {vsh vlo : Value} {m1 m2 : Nat} {ws : List Value} (hi : i < 3) (hDr : Dr w av da o kvs xd dd ld ex ed el) (hj : j < 3) (hu0 : 0 < us.length) (hw0 : ws.length = 0) (hlen : us.length ≤ 600) :
    TellsX w 13 753 [.ref x, .ref ix, .ref xv, .ref nt] [(ix, instObj 84 dm), (dm, dictOf [ent w.params (Str.ofString "kind") y1 (.str (Str.ofString "missing") y2), ent w.params (Str.ofString "attrs") y3 .none] n9), (x, instObj 113 d), (d, dictOf (vd w.params t1 t2 t3 t4 t5 (.str (kS i) kt) (.ref li) av sh lo) n1), (da, o), (xd, ex), (dd, ed), (ld, el), (li, listOf us.toArray n2), (xv, instObj 113 dv), (dv, dictOf (vd w.params v1 v2 v3 v4 v5 (.str (kS j) vt) (.ref lv) .none vsh vlo) m1), (lv, listOf ws.toArray m2), (nt, listOf ([] : List Value).toArray n4)] (Str.ofString "replacement has length zero") := by
  refine wo ?_
  simp (disch :=
  k_dflt (
  refine wk ?_
  obtain ⟨a1, a2, a3, a4, a5, a6⟩ := kS_no hi
  have hLi : ([Str.ofString "list", Str.ofString "expression", Str.ofString "pairlist"].any fun x => x == kS i) = false := by rcases three hi with rfl | rfl | rfl <;> decide
  obtain ⟨b1, b2, b3, b4, b5, b6⟩ := kS_no hj
  refine' raises_plain (binds := [(Str.ofString "v", .ref x), (Str.ofString "ix", .ref ix), (Str.ofString "value", .ref xv), (Str.ofString "notes", .ref nt)]) ?k1 ?k2 ?k3 ?k4 ?k5 ?k6 ?k7 ?k8 ?k9 ?_
  case k1 => k_is
  case k2 => k_is
  case k3 => exact fun s => BindsTo.of_eq rfl
  case k4 => exact locs rfl
  case k5 => decide
  case k6 => rfl
  case k7 => rfl
  case k8 => rfl
  case k9 => decide
  intro p loose mean mg mb dp un gd cn cs L a ccd cl outer base H0 L' s B F K N T hdp hun hN0 hL0
  generalize hg : hideAll H0 _ = g at B F K N T
  (try dsimp only)
  refine vec_walk (vs := _) hi hDr (by omega) B F K N T hdp hun ?_
  clear F N
  intro T9 pl9 nl9 n09 ps9 h' tk' m' hI9 F hm1 hm2 hm3 hm4 hm5 N hA9
  have hpn9 := hI9.length
  rw [rangeKs_length] at hpn9
  show wpAny _ _ (execs (_ :: _ :: []) _) _ _ _
  repeat' ((fail_if_success (with_reducible show Boom _ _ _ _ _ _ _ _ _ _)); k_extra "S0"; k_extra "S1")
  (rename RaisedE _ _ _ _ _ _ _ => hRE)
  subst hg
  exact boom_on rfl rfl hRE (kept hN0 (by k_asm) (by k_asm) (by k_extra "SUB")) hL0
  )) only [↓wt]
theorem vec_null {w : World} {x d da xd dd ld : Addr} {t1 t2 t3 t4 t5 kt : Tok} {i : Nat} {av sh lo : Value} {n1 li n2 : Nat} {us : List Value} {o ex ed el : Obj} {kvs : List (Str × Value)} {ix dm : Addr} {y1 y2 y3 : Tok} {n9 : Nat} {nt n4 : Nat} {xv dv : Addr} {z1 z2 z3 : Tok} {m1 : Nat} (hi : i < 3) (hDr : Dr w av da o kvs xd dd ld ex ed el) (hu0 : us.length = 0) :
    Tells w 13 753 [.ref x, .ref ix, .ref xv, .ref nt] [(ix, instObj 84 dm), (dm, dictOf [ent w.params (Str.ofString "kind") y1 (.str (Str.ofString "missing") y2), ent w.params (Str.ofString "attrs") y3 .none] n9), (x, instObj 113 d), (d, dictOf (vd w.params t1 t2 t3 t4 t5 (.str (kS i) kt) (.ref li) av sh lo) n1), (da, o), (xd, ex), (dd, ed), (ld, el), (li, listOf us.toArray n2), (xv, instObj 63 dv), (dv, dictOf [ent w.params (Str.ofString "kind") z1 (.str (Str.ofString "NULL") z2), ent w.params (Str.ofString "attrs") z3 .none] m1), (nt, listOf ([] : List Value).toArray n4)] [] (Gives0 fun P => P (.ref x)) := by
  refine wo ?_
  simp (disch :=
  k_dflt (
  refine wk ?_
  obtain ⟨a1, a2, a3, a4, a5, a6⟩ := kS_no hi
  have hLi : ([Str.ofString "list", Str.ofString "expression", Str.ofString "pairlist"].any fun x => x == kS i) = false := by rcases three hi with rfl | rfl | rfl <;> decide
  refine' tells_plainP (binds := [(Str.ofString "v", .ref x), (Str.ofString "ix", .ref ix), (Str.ofString "value", .ref xv), (Str.ofString "notes", .ref nt)]) ?k1 ?k2 ?k3 ?k4 ?k5 ?k6 ?k7 ?k8 ?k9 ?_
  case k1 => k_is
  case k2 => k_is
  case k3 => exact fun s => BindsTo.of_eq rfl
  case k4 => exact locs rfl
  case k5 => decide
  case k6 => rfl
  case k7 => rfl
  case k8 => rfl
  case k9 => decide
  intro p loose mean mg mb dp un gd cn cs L a ccd cl outer base g L' s Pq B F K N T hdp hun hPq e9 A9
  (try dsimp only)
  refine vec_walk (vs := _) hi hDr (by omega) B F K N T hdp hun ?_
  clear F N
  intro T9 pl9 nl9 n09 ps9 h' tk' m' hI9 F hm1 hm2 hm3 hm4 hm5 N hA9
  have hpn9 := hI9.length
  rw [rangeKs_length] at hpn9
  show wpAny _ _ (execs (_ :: _ :: []) _) _ _ _
  repeat' (k_extra "S0"; k_extra "S1")
  ((try dsimp only); refine' post_of [] _ rfl ?F ?N ?h1 ?h2 ?h3; (case F => k_asm); (case N => k_asm); (case h1 => k_extra "SUB"); (case h2 => k_extra "KEEP"); (case h3 => exact gives0 fun P hP => hP))
  )) only [↓wt]
theorem vec_nullX {w : World} {x d da xd dd ld : Addr} {t1 t2 t3 t4 t5 kt : Tok} {i : Nat} {av sh lo : Value} {n1 li n2 : Nat} {us : List Value} {o ex ed el : Obj} {kvs : List (Str × Value)} {ix dm : Addr} {y1 y2 y3 : Tok} {n9 : Nat} {nt n4 : Nat} {xv dv : Addr} {z1 z2 z3 : Tok} {m1 : Nat} (hi : i < 3) (hDr : Dr w av da o kvs xd dd ld ex ed el) (hu0 : 0 < us.length) (hlen : us.length ≤ 600) :
    TellsX w 13 753 [.ref x, .ref ix, .ref xv, .ref nt] [(ix, instObj 84 dm), (dm, dictOf [ent w.params (Str.ofString "kind") y1 (.str (Str.ofString "missing") y2), ent w.params (Str.ofString "attrs") y3 .none] n9), (x, instObj 113 d), (d, dictOf (vd w.params t1 t2 t3 t4 t5 (.str (kS i) kt) (.ref li) av sh lo) n1), (da, o), (xd, ex), (dd, ed), (ld, el), (li, listOf us.toArray n2), (xv, instObj 63 dv), (dv, dictOf [ent w.params (Str.ofString "kind") z1 (.str (Str.ofString "NULL") z2), ent w.params (Str.ofString "attrs") z3 .none] m1), (nt, listOf ([] : List Value).toArray n4)] (Str.ofString "replacement has length zero") := by
  refine wo ?_
  simp (disch :=
  k_dflt (
  refine wk ?_
  obtain ⟨a1, a2, a3, a4, a5, a6⟩ := kS_no hi
  have hLi : ([Str.ofString "list", Str.ofString "expression", Str.ofString "pairlist"].any fun x => x == kS i) = false := by rcases three hi with rfl | rfl | rfl <;> decide
  refine' raises_plain (binds := [(Str.ofString "v", .ref x), (Str.ofString "ix", .ref ix), (Str.ofString "value", .ref xv), (Str.ofString "notes", .ref nt)]) ?k1 ?k2 ?k3 ?k4 ?k5 ?k6 ?k7 ?k8 ?k9 ?_
  case k1 => k_is
  case k2 => k_is
  case k3 => exact fun s => BindsTo.of_eq rfl
  case k4 => exact locs rfl
  case k5 => decide
  case k6 => rfl
  case k7 => rfl
  case k8 => rfl
  case k9 => decide
  intro p loose mean mg mb dp un gd cn cs L a ccd cl outer base H0 L' s B F K N T hdp hun hN0 hL0
  generalize hg : hideAll H0 _ = g at B F K N T
  (try dsimp only)
  refine vec_walk (vs := _) hi hDr (by omega) B F K N T hdp hun ?_
  clear F N
  intro T9 pl9 nl9 n09 ps9 h' tk' m' hI9 F hm1 hm2 hm3 hm4 hm5 N hA9
  have hpn9 := hI9.length
  rw [rangeKs_length] at hpn9
  show wpAny _ _ (execs (_ :: _ :: []) _) _ _ _
  repeat' ((fail_if_success (with_reducible show wpAny _ _ (exec (Stmt.Raise _ _ _) _) _ _ _)); k_extra "S0"; k_extra "S1")
  k_dflt (refine' raise_refusal (w := w) ?B ?F ?X ?N ?T ?k ?x ?d ?u ?ne ?_)
  case B => k_asm
  case F => k_asm
  case X => k_asm
  case N => k_asm
  case T => k_asm
  case k => rfl
  case x => rfl
  case d => k_extra "ROOM"
  case u => k_extra "UNITS"
  case ne => k_is
  intro h9 e9 D9 t09 tk9 tm9 tk8 z1 z2 z3 z4 z5
  subst hg
  exact boom_made B (by k_asm) rfl rfl rfl (kept hN0 (by k_asm) (by k_asm) (by k_extra "SUB")) hL0 z1 z2 z3 z4 z5
  )) only [↓wt]
end
section
open PySem PySem.W PyProof.Rows PySem.Calls
set_option Elab.async false
set_option maxRecDepth 100000 
set_option maxHeartbeats 8000000 
theorem kwC13_0 : True := by
  k_with_none
  k_with "MEM" => first | (with_reducible exact List.mem_cons_self) | ((with_reducible refine List.mem_cons_of_mem _ ?_); k_extra "MEM")
  k_with "ENTER" => (refine' code_defP ?zqk1 ?zqk2 ?zqk3 ?zqk4 ?zqk5 ?zqkA ?zqkF ?zqkK ?zqk6 ?zqk7 ?zqk8 ?zqk9 ?zqkB ?_ ?zqc2 ?zqc3 ?zqc4 ?zqc5; (case zqkA => exact rfl); (case zqkF => exact rfl); (case zqkK => exact rfl); (case zqk1 => k_asm); (case zqk2 => k_asm); (case zqk3 => k_asm); (case zqk4 => k_asm); (case zqk5 => k_asm); (case zqk6 => k_is); (case zqk7 => k_is); (case zqk8 => k_room); (case zqk9 => first | exact BindsTo.of_eq rfl | exact binds_K (by k_in) rfl (by k_is) rfl rfl rfl); (case zqc5 => decide); (case zqkB => exact locs rfl); (case zqc2 => exact rfl); (case zqc3 => exact rfl); (case zqc4 => exact rfl); k_whole; intro g' L' h' Q' FG' F' N' B' X' T' hQ' e9 A9; (try dsimp only); (try k_lift B'); (try k_fold))
  k_with "S0" => ((fail_if_success (with_reducible show Post _ _ _ _ _ _ _ _)); (fail_if_success (with_reducible show LoopP _ _ _ _ _ _ _ _)); (fail_if_success (with_reducible show CmpP _ _ _ _ _ _ _ _ _ _ _ _ _ _ _)))
  k_with "S1" => first | (k_unfold; (try dsimp only)) | (k_end; wrow_close) | walk1 | (with_reducible refine hand (by assumption) ?_; try dsimp only) | (dsimp only; walk1) | (leave1; try dsimp only)
  k_with "ROOM" => first | (refine' room0 ?zqh ?zqe; (case zqh => assumption); (case zqe => exact rfl)) | (refine' room1 ?zqh ?zqe; (case zqh => assumption); (case zqe => exact rfl)) | (refine' room2 ?zqh ?zqe; (case zqh => assumption); (case zqe => exact rfl)) | (refine' room3 ?zqh ?zqe; (case zqh => assumption); (case zqe => exact rfl)) | (refine' roomz ?zqh; (case zqh => assumption)) | ktr_room
  k_with "UNITS" => first | (refine' room0 ?zqh ?zqe; (case zqh => assumption); (case zqe => exact rfl)) | (refine' room1 ?zqh ?zqe; (case zqh => assumption); (case zqe => exact rfl)) | (refine' room2 ?zqh ?zqe; (case zqh => assumption); (case zqe => exact rfl)) | (refine' room3 ?zqh ?zqe; (case zqh => assumption); (case zqe => exact rfl)) | exact lt_num rfl | ktr_units
  k_with "AR" => first | assumption | exact Nat.le_max_right _ _ | exact Nat.le_max_left _ _ | exact Nat.max_lt.mpr ⟨by assumption, by assumption⟩ | (refine' le_up ?zqh ?zqe; (case zqh => assumption); (case zqe => exact rfl)) | omega
  k_with "SUT" => first | exact sub_self | (refine sub_skip ?_; k_extra "SUT")
  k_with "SUB" => first | exact sub_nil | ((with_reducible refine' sub_cons ?zqsm ?_); (case zqsm => k_mem); k_extra "SUB") | k_extra "SUT"
  k_with "SUK" => first | exact sub_nil | k_extra "SUT" | k_extra "SUB"
  k_with "KEEP" => first | (refine keep_hd (List.Mem.head _) ?_; k_extra "KEEP") | exact keep_of (by k_extra "SUK") | ((with_reducible refine' keep_cons ?zqkm ?_); (case zqkm => k_mem); k_extra "KEEP")
  k_with "APQ" => (rename Apart _ _ => h9; first | exact Apart.at h9 (by k_extra "MEM") (by k_extra "MEM") | exact ap_at h9 (by k_extra "MEM") (by k_extra "MEM") | (clear h9; k_extra "APQ"))
  k_with "ANQ" => (rename AllNe _ _ => h9; first | exact AllNe.at h9 (by k_extra "MEM") | exact an_at h9 (by k_extra "MEM") | (clear h9; k_extra "ANQ"))
  k_with "ALQ" => (rename AllLt _ _ => h9; first | exact lt_ne h9 (by k_extra "MEM") | exact lt_en h9 (by k_extra "MEM") | exact lt_ne2 h9 (by assumption) (by k_extra "MEM") | exact lt_en2 h9 (by assumption) (by k_extra "MEM") | (clear h9; k_extra "ALQ"))
  k_with "NEQ" => first | assumption | exact Ne.symm (by assumption) | exact Nat.ne_of_lt (by assumption) | exact Nat.ne_of_gt (by assumption) | k_extra "ALQ" | k_extra "ANQ" | k_extra "APQ" | omega
  k_with "APS" => (rename Apart _ _ => h9; first | exact Apart.subA h9 rfl (by k_extra "SUK") | (clear h9; k_extra "APS"))
  k_with "NE1" => (refine neN ?_; (try dsimp only); k_extra "NEQ")
  k_with "ALL" => first | exact all_nil | (rename AllLt _ _ => h9; exact lt_sub h9 (by k_extra "SUT")) | (refine' all_cons ?zqa ?zqb; (case zqa => k_ne); (case zqb => k_all))
  k_with "ALN" => first | exact ne_nil | (refine ne_cons ?_ ?_; (focus ((try dsimp only); k_extra "NEQ")); k_extra "ALN")
  k_with "APM" => first | exact ap_nil | k_extra "APS" | (refine ap_cons ?_ ?_; (focus k_extra "ALN"); k_extra "APM")
  k_with "CA" => ((case zqkB => k_asm); (case zqkF => k_asm); (case zqkX => k_asm); (case zqkN => k_asm))
  k_with "CB" => ((case zqkT => k_asm); (case zqkK => first | exact rfl | assumption); (case zqkd => k_extra "ROOM"); (case zqku => k_extra "UNITS"))
  k_with "CE" => all_goals ((try ((with_reducible rename News _ _ _ _ => h9); simp only [List.nil_append, List.cons_append] at h9)); (try ((with_reducible rename Apart [] _ => h7); clear h7)); (try dsimp only [Option.getD_some, Option.getD_none]); (try k_sweep); (try k_fold))
  k_with "CZ" => all_goals ((try dsimp only [Option.getD_some, Option.getD_none]); (try k_sweep); (try k_fold))
  k_with "call builtin:len" => (k_here; (with_reducible show wpAny _ _ (call (Value.builtin "len") [Value.ref _]) _ _ _); k_dflt (refine' len_sym ?zqk1 ?zqk2 ?zqk3 ?_; (case zqk1 => k_asm); (case zqk2 => k_mem); (case zqk3 => k_extra "AR"); k_whole))
  k_with "getMethod ref" => (k_here; (with_reducible show wpAny _ _ (getMethod (Value.ref _) (PySem.Str.ofString "get") _) _ _ _); k_dflt (refine' get_method ?zqk1 ?zqk2 ?zqk3 ?_; (case zqk1 => k_asm); (case zqk2 => k_mem); (case zqk3 => with_reducible assumption); k_whole))
  k_with "call builtin:dict.get" => (k_here; (with_reducible show wpAny _ _ (call (Value.builtin "dict.get") [Value.ref _, Value.str _ _]) _ _ _); k_dflt (refine' get_call ?zqk0 ?zqk1 ?zqk2 ?zqk3 ?_; (case zqk1 => k_asm); (case zqk2 => k_mem); (case zqk3 => with_reducible assumption); (case zqk0 => with_reducible assumption); k_whole))
  k_with "LOCA" => first | exact LocArgs.nil | (refine' LocArgs.cons ?zqlk ?zqld ?zqlv ?zqlt; (case zqlk => kernel_rfl!); (case zqld => kernel_rfl); (case zqlv => first | rfl | assumption); (case zqlt => k_extra "LOCA"))
  k_with "eval Call" => (k_here; (with_reducible show wpAny _ _ (eval (Expr.Call (Expr.Name _ _) (Expr.Name _ _ :: _) [] _) _) _ _ _); first | ((with_reducible refine' callO_loc ?zqF ?zqX ?zqT ?zqe ?zqk ?zqa ?zqb ?zqc ?zql ?_); k_dflt ((case zqF => k_asm); (case zqX => k_asm); (case zqT => k_asm); (case zqa => exact rfl); (case zqb => kernel_rfl!); (case zqc => kernel_rfl); (case zqe => k_is); (case zqk => k_is); (case zql => k_extra "LOCA"); k_whole)) | ((with_reducible refine' callC_loc ?zqF ?zqX ?zqT ?zqe ?zqk ?zqa ?zqb ?zqc ?zql ?_); k_dflt ((case zqF => k_asm); (case zqX => k_asm); (case zqT => k_asm); (case zqa => exact rfl); (case zqb => kernel_rfl!); (case zqc => kernel_rfl); (case zqe => k_is); (case zqk => k_is); (case zql => k_extra "LOCA"); k_whole)))
  k_with "eval Attribute Name" => (k_here; (with_reducible refine' attrO_loc ?zqF ?zqv ?zqa ?zqb ?zqc ?_); k_dflt ((case zqF => k_asm); (case zqa => exact rfl); (case zqb => kernel_rfl!); (case zqc => kernel_rfl); (case zqv => first | rfl | assumption); k_whole))
  k_with "ite" => (k_here; first | (k_closed; first | ((with_reducible refine ite_pos ?zqk2 ?_); k_dflt (case zqk2 => decide)) | ((with_reducible refine ite_neg ?zqk2 ?_); k_dflt (case zqk2 => decide))) | (refine' ite_bf ?zqk1 ?_; (case zqk1 => first | assumption | exact decide_eq_false (by omega) | exact beq_eq_false_iff_ne.mpr (by omega))) | (refine' ite_bt ?zqk1 ?_; (case zqk1 => first | assumption | exact decide_eq_true (by omega) | exact beq_iff_eq.mpr (by omega))))
  k_with "call type:dict" => (k_here; (with_reducible show wpAny _ _ (call (Value.type "dict") [Value.ref _]) _ _ _); k_dflt (refine' dict_copyK ?zqF ?zqN ?zqb ?zqm ?zqD ?zql ?zqz ?_; (case zqF => k_asm); (case zqN => k_asm); (case zqb => exact Top.nolimit (by k_asm)); (case zqm => k_mem); (case zqD => with_reducible assumption); (case zql => with_reducible assumption); (case zqz => omega); k_whole); intro d' h' o' F' N' l1 lo' hd'; (try k_lt l1))
  k_with "OWN" => (intro p9 hp9; repeat' (first | exact hp9 | refine List.mem_append.mpr (Or.inr ?_) | refine List.mem_cons_of_mem _ ?_))
  k_with "eval Name" => (k_here; first | ((with_reducible refine' nameO_L ?zqF ?zqv ?_ ?zqa ?zqb ?zqc); k_dflt ((case zqF => k_asm); (case zqa => exact rfl); (case zqb => kernel_rfl!); (case zqc => kernel_rfl); (case zqv => first | rfl | assumption); k_whole)) | ((with_reducible refine' nameO_K ?zqF ?zqX ?zqT ?zqe ?_ ?zqa ?zqb ?zqc); k_dflt ((case zqF => k_asm); (case zqX => k_asm); (case zqT => k_asm); (case zqa => exact rfl); (case zqb => kernel_rfl!); (case zqc => kernel_rfl); (case zqe => k_is); k_whole)) | ((with_reducible refine' nameC_L ?zqF ?zqv ?_ ?zqa ?zqb ?zqc); k_dflt ((case zqF => k_asm); (case zqa => exact rfl); (case zqb => kernel_rfl!); (case zqc => kernel_rfl); (case zqv => first | rfl | assumption); k_whole)) | ((with_reducible refine' nameC_K ?zqF ?zqX ?zqT ?zqe ?_ ?zqa ?zqb ?zqc); k_dflt ((case zqF => k_asm); (case zqX => k_asm); (case zqT => k_asm); (case zqa => exact rfl); (case zqb => kernel_rfl!); (case zqc => kernel_rfl); (case zqe => k_is); k_whole)))
  trivial
theorem kwC13_1 : True := by
  k_with "call ref" => (k_here; (with_reducible show wpAny _ _ (call (Value.ref 174) _) _ _ _); k_dflt (refine' tells_call0 (isvec_tells) ?zqkB ?zqkF ?zqkX ?zqkN ?zqkS ?zqkT ?zqkK ?zqkd ?zqku ?_; k_extra "CA"; (case zqkS => k_extra "SUK"); k_extra "CB"; k_whole; intro  h' tk' F' N'; k_extra "CZ"))
  k_with "call ref" => (k_here; (with_reducible show wpAny _ _ (call (Value.ref 228) _) _ _ _); k_dflt (refine' tells_call0 (dim_any ?zqhi ?zqhDr) ?zqkB ?zqkF ?zqkX ?zqkN ?zqkS ?zqkT ?zqkK ?zqkd ?zqku ?_; k_extra "CA"; (case zqhDr => with_reducible assumption); (case zqkS => k_extra "SUK"); (case zqhi => with_reducible assumption); k_extra "CB"; k_whole; intro v9Z hdv9Z h' tk' F' N'; k_extra "CZ"))
  k_with "call ref" => (k_here; (with_reducible show wpAny _ _ (call (Value.ref 233) _) _ _ _); k_dflt (refine' tells_call0 (dimnames_any ?zqhi ?zqhDr) ?zqkB ?zqkF ?zqkX ?zqkN ?zqkS ?zqkT ?zqkK ?zqkd ?zqku ?_; k_extra "CA"; (case zqhDr => with_reducible assumption); (case zqkS => k_extra "SUK"); (case zqhi => with_reducible assumption); k_extra "CB"; k_whole; intro  h' tk' F' N'; k_extra "CZ"))
  k_with "call ref" => (k_here; (with_reducible show wpAny _ _ (call (Value.ref 634) _) _ _ _); k_dflt (refine' tells_call0 (matrix_tells ?zqhdv) ?zqkB ?zqkF ?zqkX ?zqkN ?zqkS ?zqkT ?zqkK ?zqkd ?zqku ?_; k_extra "CA"; (case zqkS => k_extra "SUK"); (case zqhdv => assumption); k_extra "CB"; k_whole; intro  h' tk' F' N'; k_extra "CZ"))
  k_with "call ref" => (k_here; (with_reducible show wpAny _ _ (call (Value.ref 153) _) _ _ _); k_dflt (refine' tellsN_callG (missing_new (k := .none) (it := .none)) ?zqkB ?zqkF ?zqkX ?zqkN ?zqkT ?zqkK ?zqkd ?zqku ?_; k_extra "CA"; k_extra "CB"; k_whole; intro x9Z d9Z n98Z q91Z q92Z q93Z hdx9Z h' tk' F' N' A'; k_extra "CE"))
  trivial
def anyDef : Stmt := PySem.Challenge.pw_pq1344_01.main.body.getD 113 (.Pass ⟨0, 0, 0, 0⟩)
def anyBody : List Stmt := match anyDef with
  | .FunctionDef _ _ body _ _ _ _ _ _ _ => body
  | _ => []
def anyScope : Scope := match anyDef with
  | .FunctionDef _ _ _ _ _ _ scope _ _ _ => scope
  | _ => default
/-- assign_any, walked once: what assign_vector does with an index left empty, it does -/
theorem any_walk {w : World} {x d da xd dd ld : Addr} {t1 t2 t3 t4 t5 kt : Tok} {i : Nat} {av sh lo : Value} {n1 li n2 : Nat} {us : List Value} {o ex ed el : Obj} {kvs : List (Str × Value)} {ix dm : Addr} {y1 y2 y3 : Tok} {n9 : Nat} {ql q9 : Nat} {qs : List Value} {xv nt : Addr} {vs : List (Addr × Obj)} {p : Program} {loose : List Str} {mean : ExcName → Option Value} {mg mb : Str → Option Value} {dp un : Nat} {gd : Option (List Code)} {cn : Str} {cs : Scope} {L a : Addr} {ccd cd : Value} {cl : List (Str × Addr)} {outer : List Env} {base g : Heap} {L' : Addr} {s : Shared} {Q : Flow → Shared → Prop} {E : Value → Shared → Prop} {Pn : Addr → Addr → Prop} (hqs : qs = [] ∨ qs = [.ref ix]) (hi : i < 3) (hDr : Dr w av da o kvs xd dd ld ex ed el)
    (B : Below (ktrTop dp un gd cn cs L a ccd cl outer) base (envX cn cs L a ccd cl :: outer) g) (F : Fr g L' s.heap (fun y => ([(Str.ofString "v", .ref x), (Str.ofString "indexes", .ref ql), (Str.ofString "value", .ref xv), (Str.ofString "notes", .ref nt)] : List (Str × Value)).reverse.lookup y)) (K : (fragK.heap_1 w.params).In g) (N : News g L' s.heap ((ql, listOf qs.toArray q9) :: (ix, instObj 84 dm) :: (dm, dictOf [ent w.params (Str.ofString "kind") y1 (.str (Str.ofString "missing") y2), ent w.params (Str.ofString "attrs") y3 .none] n9) :: (x, instObj 113 d) :: (d, dictOf (vd w.params t1 t2 t3 t4 t5 (.str (kS i) kt) (.ref li) av sh lo) n1) :: (da, o) :: (xd, ex) :: (dd, ed) :: (ld, el) :: (li, listOf us.toArray n2) :: vs)) (T : Top p loose mean mg mb g) (hdp : dp + 14 < recursionLimit) (hun : un + 8 * 14 < cLine)
    (hp0 : Pn ix dm) (hp1 : ∀ jx jm w1 w2 w3 w9, Apart [(jx, instObj 84 jm), (jm, dictOf [ent w.params (Str.ofString "kind") w1 (.str (Str.ofString "missing") w2), ent w.params (Str.ofString "attrs") w3 .none] w9)] ((ql, listOf qs.toArray q9) :: (ix, instObj 84 dm) :: (dm, dictOf [ent w.params (Str.ofString "kind") y1 (.str (Str.ofString "missing") y2), ent w.params (Str.ofString "attrs") y3 .none] n9) :: (x, instObj 113 d) :: (d, dictOf (vd w.params t1 t2 t3 t4 t5 (.str (kS i) kt) (.ref li) av sh lo) n1) :: (da, o) :: (xd, ex) :: (dd, ed) :: (ld, el) :: (li, listOf us.toArray n2) :: vs) → Pn jx jm)
    (h : ∀ jx jm w1 w2 w3 w9 h' tk' m', Fr g L' h' m' → News g L' h' ((jx, instObj 84 jm) :: (jm, dictOf [ent w.params (Str.ofString "kind") w1 (.str (Str.ofString "missing") w2), ent w.params (Str.ofString "attrs") w3 .none] w9) :: (ql, listOf qs.toArray q9) :: (ix, instObj 84 dm) :: (dm, dictOf [ent w.params (Str.ofString "kind") y1 (.str (Str.ofString "missing") y2), ent w.params (Str.ofString "attrs") y3 .none] n9) :: (x, instObj 113 d) :: (d, dictOf (vd w.params t1 t2 t3 t4 t5 (.str (kS i) kt) (.ref li) av sh lo) n1) :: (da, o) :: (xd, ex) :: (dd, ed) :: (ld, el) :: (li, listOf us.toArray n2) :: vs) → Pn jx jm → wpAny (model PySem.Challenge.rw_pq1344_01.row.prog w) ((ktrTop dp un gd cn cs L a ccd cl outer).deeper (envOf (Str.ofString "assign_any") anyScope L' 779 cd)) (call (.ref 753) [.ref x, .ref jx, .ref xv, .ref nt]) (fun r s' => Q (.ret r) s') E { s with heap := h', toks := tk' }) :
    wpAny (model PySem.Challenge.rw_pq1344_01.row.prog w) ((ktrTop dp un gd cn cs L a ccd cl outer).deeper (envOf (Str.ofString "assign_any") anyScope L' 779 cd)) (execs anyBody (envOf (Str.ofString "assign_any") anyScope L' 779 cd)) Q E s := by
  refine wo ?_
  simp (disch :=
  k_dflt (
  refine wk ?_
  have eS : anyScope = ⟨_, _, _, _, _⟩ := rfl
  (try dsimp only at eS)
  rw [eS] at h ⊢
  clear eS
  show wpAny _ _ (execs (_ :: _ :: _ :: _ :: _ :: _ :: _ :: []) _) _ _ _
  obtain ⟨a1, a2, a3, a4, a5, a6⟩ := kS_no hi
  have a7 : (kS i != Str.ofString "NULL") = true := by rw [bne, a4]; rfl
  have q1 : ((([] : List Value).length : Int) == (0 : Int)) = true := rfl
  have q2 : ((([.ref ix] : List Value).length : Int) == (0 : Int)) = false := rfl
  have q3 : ((([.ref ix] : List Value).length : Int) == (1 : Int)) = true := rfl
  rcases hqs with rfl | rfl
  · repeat' ((fail_if_success (with_reducible show wpAny _ _ (call (Value.ref 753) _) _ _ _)); k_extra "S0"; k_extra "S1")
    (try dsimp only)
    (rename News _ _ _ _ => N9); (rename Apart _ _ => A9)
    exact h _ _ _ _ _ _ _ _ _ (by k_asm) (news_part N9 (by k_extra "SUB")) (hp1 _ _ _ _ _ _ A9)
  · repeat' ((fail_if_success (with_reducible show wpAny _ _ (call (Value.ref 753) _) _ _ _)); k_extra "S0"; k_extra "S1")
    (try dsimp only)
    (rename News _ _ _ _ => N9)
    exact h _ _ _ _ _ _ _ _ _ (by k_asm) (news_part N9 (by k_extra "SUB")) hp0
  )) only [↓wt]
theorem kwC13_2 : True := by
  k_with "call ref" => (k_here; (with_reducible show wpAny _ _ (call (Value.ref 753) _) _ _ _); k_dflt (refine' tells_callGU (vec_ok ?zqhi ?zqhDr ?zqhj ?zqhlo ?zqhus ?zqhlen ?zqhws ?zqhwl ?zqhok ?zqhnt) ?zqkB ?zqkF ?zqkX ?zqkN ?zqkS ?zqkU ?zqkT ?zqkK ?zqkd ?zqku ?_; k_extra "CA"; (case zqhDr => with_reducible assumption); (case zqkS => k_extra "SUK"); (case zqkU => k_updF); (case zqhi => with_reducible assumption); (case zqhj => with_reducible assumption); (case zqhlo => exact rfl); (case zqhus => assumption); (case zqhlen => k_extra "AR"); (case zqhws => assumption); (case zqhwl => k_extra "AR"); (case zqhok => assumption); (case zqhnt => (refine' AllNe.of fun q hq => ?_; revert q; k_extra "ALN")); k_extra "CB"; k_whole; intro x9Z d9Z l9Z da9Z n9Z n8Z n7Z a9Z o9Z u9Z ns9Z s91Z s92Z s93Z s94Z s95Z s96Z s97Z t9Z hNt9Z hRs9Z hWo9Z h' tk' F' N' A'; (try dsimp only at N'); k_extra "CE"))
  trivial
theorem any_ok {w : World} {x d da xd dd ld : Addr} {t1 t2 t3 t4 t5 kt : Tok} {i : Nat} {av sh lo : Value} {n1 li n2 : Nat} {us : List Value} {o ex ed el : Obj} {kvs : List (Str × Value)} {ix dm : Addr} {y1 y2 y3 : Tok} {n9 : Nat} {ql q9 : Nat} {qs : List Value} {j nt n4 : Nat} {xv dv lv : Addr} {v1 v2 v3 v4 v5 vt : Tok} {vsh vlo : Value} {m1 m2 : Nat} {ws : List Value} (hqs : qs = [] ∨ qs = [.ref ix]) (hi : i < 3) (hDr : Dr w av da o kvs xd dd ld ex ed el) (hj : j < 3) (hlo9 : lo = .bool false) (hus : ∀ u ∈ us, Okv i u) (hlen : us.length ≤ 600) (hws : ∀ u ∈ ws, Okv j u) (hwl : ws.length ≤ 600) (hok : us.length = 0 ∨ 0 < ws.length) (hnt : AllNe nt [(ql, listOf qs.toArray q9), (ix, instObj 84 dm), (dm, dictOf [ent w.params (Str.ofString "kind") y1 (.str (Str.ofString "missing") y2), ent w.params (Str.ofString "attrs") y3 .none] n9), (x, instObj 113 d), (d, dictOf (vd w.params t1 t2 t3 t4 t5 (.str (kS i) kt) (.ref li) av sh lo) n1), (da, o), (xd, ex), (dd, ed), (ld, el), (li, listOf us.toArray n2), (xv, instObj 113 dv), (dv, dictOf (vd w.params v1 v2 v3 v4 v5 (.str (kS j) vt) (.ref lv) .none vsh vlo) m1), (lv, listOf ws.toArray m2)]) :
    Tells w 14 779 [.ref x, .ref ql, .ref xv, .ref nt] [(ql, listOf qs.toArray q9), (ix, instObj 84 dm), (dm, dictOf [ent w.params (Str.ofString "kind") y1 (.str (Str.ofString "missing") y2), ent w.params (Str.ofString "attrs") y3 .none] n9), (x, instObj 113 d), (d, dictOf (vd w.params t1 t2 t3 t4 t5 (.str (kS i) kt) (.ref li) av sh lo) n1), (da, o), (xd, ex), (dd, ed), (ld, el), (li, listOf us.toArray n2), (xv, instObj 113 dv), (dv, dictOf (vd w.params v1 v2 v3 v4 v5 (.str (kS j) vt) (.ref lv) .none vsh vlo) m1), (lv, listOf ws.toArray m2), (nt, listOf ([] : List Value).toArray n4)] [nt] (GivesU nt [(ql, listOf qs.toArray q9), (ix, instObj 84 dm), (dm, dictOf [ent w.params (Str.ofString "kind") y1 (.str (Str.ofString "missing") y2), ent w.params (Str.ofString "attrs") y3 .none] n9), (x, instObj 113 d), (d, dictOf (vd w.params t1 t2 t3 t4 t5 (.str (kS i) kt) (.ref li) av sh lo) n1), (da, o), (xd, ex), (dd, ed), (ld, el), (li, listOf us.toArray n2), (xv, instObj 113 dv), (dv, dictOf (vd w.params v1 v2 v3 v4 v5 (.str (kS j) vt) (.ref lv) .none vsh vlo) m1), (lv, listOf ws.toArray m2), (nt, listOf ([] : List Value).toArray n4)] fun P => ∀ x' d' l' da' n' n8 n9 av' o'', ∀ us' ns : List Value, ∀ s1 s2 s3 s4 s5 s6 s7 t', Nts us.length ws.length ns → Rs j (max i j) us ws us' → Wo w av kvs av' da' o'' → P (.ref x') (listOf ns.toArray n9) [(x', instObj 113 d'), (d', dictOf (vd w.params s1 s2 s3 s4 s5 (.str (kS (max i j)) t') (.ref l') av' s6 s7) n8), (l', listOf us'.toArray n'), (da', o'')]) := by
  refine wo ?_
  simp (disch :=
  k_dflt (
  refine wk ?_
  subst hlo9
  refine' tells_plainP (binds := [(Str.ofString "v", .ref x), (Str.ofString "indexes", .ref ql), (Str.ofString "value", .ref xv), (Str.ofString "notes", .ref nt)]) ?k1 ?k2 ?k3 ?k4 ?k5 ?k6 ?k7 ?k8 ?k9 ?_
  case k1 => k_is
  case k2 => k_is
  case k3 => exact fun s => BindsTo.of_eq rfl
  case k4 => exact locs rfl
  case k5 => decide
  case k6 => rfl
  case k7 => rfl
  case k8 => rfl
  case k9 => decide
  intro p loose mean mg mb dp un gd cn cs L a ccd cl outer base g L' s Pq B F K N T hdp hun hPq e9 A9
  (try dsimp only)
  refine any_walk (vs := [(xv, instObj 113 dv), (dv, dictOf (vd w.params v1 v2 v3 v4 v5 (.str (kS j) vt) (.ref lv) .none vsh vlo) m1), (lv, listOf ws.toArray m2), (nt, listOf ([] : List Value).toArray n4)]) (Pn := (fun ix dm => @Ne Nat nt ix ∧ @Ne Nat nt dm)) hqs hi hDr B F K N T hdp hun ⟨by k_extra "NEQ", by k_extra "NEQ"⟩ (fun _ _ _ _ _ _ hA => ⟨by k_extra "NEQ", by k_extra "NEQ"⟩) ?_
  clear F N
  intro jx jm w1 w2 w3 w9 h' tk' m' F N hp
  obtain ⟨hp2, hp3⟩ := hp
  repeat' (k_extra "S0"; k_extra "S1")
  (rename Wo _ _ _ _ _ _ => hWo); (rename Rs _ _ _ _ _ => hRs); (rename Nts _ _ _ => hNt); ((try dsimp only); exact post_of _ _ rfl (by k_asm) (by k_asm) (by k_extra "SUB") (by k_extra "KEEP") (⟨_, _, rfl, (by k_extra "APM"), fun P hP => hP _ _ _ _ _ _ _ _ _ _ _ _ _ _ _ _ _ _ _ hNt hRs hWo⟩))
  )) only [↓wt]
theorem kwC13_3 : True := by
  k_with "call ref" => (k_here; (with_reducible show wpAny _ _ (call (Value.ref 753) _) _ _ _); k_dflt (refine' tellsX_call (vec_raise ?zqhi ?zqhDr ?zqhj ?zqhu0 ?zqhw0 ?zqhlen) ?zqkB ?zqkF ?zqkX ?zqkN ?zqkS ?zqkT ?zqkK ?zqkd ?zqku ?_; k_extra "CA"; (case zqhDr => with_reducible assumption); (case zqkS => k_extra "SUK"); (case zqhi => with_reducible assumption); (case zqhj => with_reducible assumption); (case zqhu0 => k_extra "AR"); (case zqhw0 => k_extra "AR"); (case zqhlen => k_extra "AR"); k_extra "CB"; k_whole; intro e' D' tk' tm' h' tk'' R'))
  trivial
theorem any_raise {w : World} {x d da xd dd ld : Addr} {t1 t2 t3 t4 t5 kt : Tok} {i : Nat} {av sh lo : Value} {n1 li n2 : Nat} {us : List Value} {o ex ed el : Obj} {kvs : List (Str × Value)} {ix dm : Addr} {y1 y2 y3 : Tok} {n9 : Nat} {ql q9 : Nat} {qs : List Value} {j nt n4 : Nat} {xv dv lv : Addr} {v1 v2 v3 v4 v5 vt : Tok} {vsh vlo : Value} {m1 m2 : Nat} {ws : List Value} (hqs : qs = [] ∨ qs = [.ref ix]) (hi : i < 3) (hDr : Dr w av da o kvs xd dd ld ex ed el) (hj : j < 3) (hu0 : 0 < us.length) (hw0 : ws.length = 0) (hlen : us.length ≤ 600) :
    TellsX w 14 779 [.ref x, .ref ql, .ref xv, .ref nt] [(ql, listOf qs.toArray q9), (ix, instObj 84 dm), (dm, dictOf [ent w.params (Str.ofString "kind") y1 (.str (Str.ofString "missing") y2), ent w.params (Str.ofString "attrs") y3 .none] n9), (x, instObj 113 d), (d, dictOf (vd w.params t1 t2 t3 t4 t5 (.str (kS i) kt) (.ref li) av sh lo) n1), (da, o), (xd, ex), (dd, ed), (ld, el), (li, listOf us.toArray n2), (xv, instObj 113 dv), (dv, dictOf (vd w.params v1 v2 v3 v4 v5 (.str (kS j) vt) (.ref lv) .none vsh vlo) m1), (lv, listOf ws.toArray m2), (nt, listOf ([] : List Value).toArray n4)] (Str.ofString "replacement has length zero") := by
  refine wo ?_
  simp (disch :=
  k_dflt (
  refine wk ?_
  refine' raises_plain (binds := [(Str.ofString "v", .ref x), (Str.ofString "indexes", .ref ql), (Str.ofString "value", .ref xv), (Str.ofString "notes", .ref nt)]) ?k1 ?k2 ?k3 ?k4 ?k5 ?k6 ?k7 ?k8 ?k9 ?_
  case k1 => k_is
  case k2 => k_is
  case k3 => exact fun s => BindsTo.of_eq rfl
  case k4 => exact locs rfl
  case k5 => decide
  case k6 => rfl
  case k7 => rfl
  case k8 => rfl
  case k9 => decide
  intro p loose mean mg mb dp un gd cn cs L a ccd cl outer base H0 L' s B F K N T hdp hun hN0 hL0
  generalize hg : hideAll H0 _ = g at B F K N T
  (try dsimp only)
  refine any_walk (vs := _) (Pn := (fun _ _ => True)) hqs hi hDr B F K N T hdp hun True.intro (fun _ _ _ _ _ _ _ => True.intro) ?_
  clear F N
  intro jx jm w1 w2 w3 w9 h' tk' m' F N hp
  repeat' ((fail_if_success (with_reducible show Boom _ _ _ _ _ _ _ _ _ _)); k_extra "S0"; k_extra "S1")
  (rename RaisedE _ _ _ _ _ _ _ => hRE)
  subst hg
  exact boom_on rfl rfl hRE (kept hN0 (by k_asm) (by k_asm) (by k_extra "SUB")) hL0
  )) only [↓wt]
theorem kwC13_4 : True := by
  k_with "call ref" => (k_here; (with_reducible show wpAny _ _ (call (Value.ref 753) _) _ _ _); k_dflt (refine' tells_call0 (vec_null ?zqhi ?zqhDr ?zqhu0) ?zqkB ?zqkF ?zqkX ?zqkN ?zqkS ?zqkT ?zqkK ?zqkd ?zqku ?_; k_extra "CA"; (case zqhDr => with_reducible assumption); (case zqkS => k_extra "SUK"); (case zqhi => with_reducible assumption); (case zqhu0 => k_extra "AR"); k_extra "CB"; k_whole; intro  h' tk' F' N'; k_extra "CZ"))
  trivial
theorem any_null {w : World} {x d da xd dd ld : Addr} {t1 t2 t3 t4 t5 kt : Tok} {i : Nat} {av sh lo : Value} {n1 li n2 : Nat} {us : List Value} {o ex ed el : Obj} {kvs : List (Str × Value)} {ix dm : Addr} {y1 y2 y3 : Tok} {n9 : Nat} {ql q9 : Nat} {qs : List Value} {nt n4 : Nat} {xv dv : Addr} {z1 z2 z3 : Tok} {m1 : Nat} (hqs : qs = [] ∨ qs = [.ref ix]) (hi : i < 3) (hDr : Dr w av da o kvs xd dd ld ex ed el) (hu0 : us.length = 0) :
    Tells w 14 779 [.ref x, .ref ql, .ref xv, .ref nt] [(ql, listOf qs.toArray q9), (ix, instObj 84 dm), (dm, dictOf [ent w.params (Str.ofString "kind") y1 (.str (Str.ofString "missing") y2), ent w.params (Str.ofString "attrs") y3 .none] n9), (x, instObj 113 d), (d, dictOf (vd w.params t1 t2 t3 t4 t5 (.str (kS i) kt) (.ref li) av sh lo) n1), (da, o), (xd, ex), (dd, ed), (ld, el), (li, listOf us.toArray n2), (xv, instObj 63 dv), (dv, dictOf [ent w.params (Str.ofString "kind") z1 (.str (Str.ofString "NULL") z2), ent w.params (Str.ofString "attrs") z3 .none] m1), (nt, listOf ([] : List Value).toArray n4)] [] (Gives0 fun P => P (.ref x)) := by
  refine wo ?_
  simp (disch :=
  k_dflt (
  refine wk ?_
  refine' tells_plainP (binds := [(Str.ofString "v", .ref x), (Str.ofString "indexes", .ref ql), (Str.ofString "value", .ref xv), (Str.ofString "notes", .ref nt)]) ?k1 ?k2 ?k3 ?k4 ?k5 ?k6 ?k7 ?k8 ?k9 ?_
  case k1 => k_is
  case k2 => k_is
  case k3 => exact fun s => BindsTo.of_eq rfl
  case k4 => exact locs rfl
  case k5 => decide
  case k6 => rfl
  case k7 => rfl
  case k8 => rfl
  case k9 => decide
  intro p loose mean mg mb dp un gd cn cs L a ccd cl outer base g L' s Pq B F K N T hdp hun hPq e9 A9
  (try dsimp only)
  refine any_walk (vs := _) (Pn := (fun _ _ => True)) hqs hi hDr B F K N T hdp hun True.intro (fun _ _ _ _ _ _ _ => True.intro) ?_
  clear F N
  intro jx jm w1 w2 w3 w9 h' tk' m' F N hp
  repeat' (k_extra "S0"; k_extra "S1")
  ((try dsimp only); refine' post_of [] _ rfl ?F ?N ?h1 ?h2 ?h3; (case F => k_asm); (case N => k_asm); (case h1 => k_extra "SUB"); (case h2 => k_extra "KEEP"); (case h3 => exact gives0 fun P hP => hP))
  )) only [↓wt]
theorem kwC13_5 : True := by
  k_with "call ref" => (k_here; (with_reducible show wpAny _ _ (call (Value.ref 753) _) _ _ _); k_dflt (refine' tellsX_call (vec_nullX ?zqhi ?zqhDr ?zqhu0 ?zqhlen) ?zqkB ?zqkF ?zqkX ?zqkN ?zqkS ?zqkT ?zqkK ?zqkd ?zqku ?_; k_extra "CA"; (case zqhDr => with_reducible assumption); (case zqkS => k_extra "SUK"); (case zqhi => with_reducible assumption); (case zqhu0 => k_extra "AR"); (case zqhlen => k_extra "AR"); k_extra "CB"; k_whole; intro e' D' tk' tm' h' tk'' R'))
  trivial
theorem any_nullX {w : World} {x d da xd dd ld : Addr} {t1 t2 t3 t4 t5 kt : Tok} {i : Nat} {av sh lo : Value} {n1 li n2 : Nat} {us : List Value} {o ex ed el : Obj} {kvs : List (Str × Value)} {ix dm : Addr} {y1 y2 y3 : Tok} {n9 : Nat} {ql q9 : Nat} {qs : List Value} {nt n4 : Nat} {xv dv : Addr} {z1 z2 z3 : Tok} {m1 : Nat} (hqs : qs = [] ∨ qs = [.ref ix]) (hi : i < 3) (hDr : Dr w av da o kvs xd dd ld ex ed el) (hu0 : 0 < us.length) (hlen : us.length ≤ 600) :
    TellsX w 14 779 [.ref x, .ref ql, .ref xv, .ref nt] [(ql, listOf qs.toArray q9), (ix, instObj 84 dm), (dm, dictOf [ent w.params (Str.ofString "kind") y1 (.str (Str.ofString "missing") y2), ent w.params (Str.ofString "attrs") y3 .none] n9), (x, instObj 113 d), (d, dictOf (vd w.params t1 t2 t3 t4 t5 (.str (kS i) kt) (.ref li) av sh lo) n1), (da, o), (xd, ex), (dd, ed), (ld, el), (li, listOf us.toArray n2), (xv, instObj 63 dv), (dv, dictOf [ent w.params (Str.ofString "kind") z1 (.str (Str.ofString "NULL") z2), ent w.params (Str.ofString "attrs") z3 .none] m1), (nt, listOf ([] : List Value).toArray n4)] (Str.ofString "replacement has length zero") := by
  refine wo ?_
  simp (disch :=
  k_dflt (
  refine wk ?_
  refine' raises_plain (binds := [(Str.ofString "v", .ref x), (Str.ofString "indexes", .ref ql), (Str.ofString "value", .ref xv), (Str.ofString "notes", .ref nt)]) ?k1 ?k2 ?k3 ?k4 ?k5 ?k6 ?k7 ?k8 ?k9 ?_
  case k1 => k_is
  case k2 => k_is
  case k3 => exact fun s => BindsTo.of_eq rfl
  case k4 => exact locs rfl
  case k5 => decide
  case k6 => rfl
  case k7 => rfl
  case k8 => rfl
  case k9 => decide
  intro p loose mean mg mb dp un gd cn cs L a ccd cl outer base H0 L' s B F K N T hdp hun hN0 hL0
  generalize hg : hideAll H0 _ = g at B F K N T
  (try dsimp only)
  refine any_walk (vs := _) (Pn := (fun _ _ => True)) hqs hi hDr B F K N T hdp hun True.intro (fun _ _ _ _ _ _ _ => True.intro) ?_
  clear F N
  intro jx jm w1 w2 w3 w9 h' tk' m' F N hp
  repeat' ((fail_if_success (with_reducible show Boom _ _ _ _ _ _ _ _ _ _)); k_extra "S0"; k_extra "S1")
  (rename RaisedE _ _ _ _ _ _ _ => hRE)
  subst hg
  exact boom_on rfl rfl hRE (kept hN0 (by k_asm) (by k_asm) (by k_extra "SUB")) hL0
  )) only [↓wt]
end
section
open PySem PySem.W PyProof.Rows PySem.Calls
set_option Elab.async false
set_option maxRecDepth 100000 
set_option maxHeartbeats 8000000 
theorem kwC14_0 : True := by
  k_with_none
  k_with "MEM" => first | (with_reducible exact List.mem_cons_self) | ((with_reducible refine List.mem_cons_of_mem _ ?_); k_extra "MEM")
  k_with "ENTER" => (refine' code_defP ?zqk1 ?zqk2 ?zqk3 ?zqk4 ?zqk5 ?zqkA ?zqkF ?zqkK ?zqk6 ?zqk7 ?zqk8 ?zqk9 ?zqkB ?_ ?zqc2 ?zqc3 ?zqc4 ?zqc5; (case zqkA => exact rfl); (case zqkF => exact rfl); (case zqkK => exact rfl); (case zqk1 => k_asm); (case zqk2 => k_asm); (case zqk3 => k_asm); (case zqk4 => k_asm); (case zqk5 => k_asm); (case zqk6 => k_is); (case zqk7 => k_is); (case zqk8 => k_room); (case zqk9 => first | exact BindsTo.of_eq rfl | exact binds_K (by k_in) rfl (by k_is) rfl rfl rfl); (case zqc5 => decide); (case zqkB => exact locs rfl); (case zqc2 => exact rfl); (case zqc3 => exact rfl); (case zqc4 => exact rfl); k_whole; intro g' L' h' Q' FG' F' N' B' X' T' hQ' e9 A9; (try dsimp only); (try k_lift B'); (try k_fold))
  k_with "S0" => ((fail_if_success (with_reducible show Post _ _ _ _ _ _ _ _)); (fail_if_success (with_reducible show LoopP _ _ _ _ _ _ _ _)); (fail_if_success (with_reducible show CmpP _ _ _ _ _ _ _ _ _ _ _ _ _ _ _)))
  k_with "S1" => first | (k_unfold; (try dsimp only)) | (k_end; wrow_close) | walk1 | (with_reducible refine hand (by assumption) ?_; try dsimp only) | (dsimp only; walk1) | (leave1; try dsimp only)
  k_with "ROOM" => first | (refine' room0 ?zqh ?zqe; (case zqh => assumption); (case zqe => exact rfl)) | (refine' room1 ?zqh ?zqe; (case zqh => assumption); (case zqe => exact rfl)) | (refine' room2 ?zqh ?zqe; (case zqh => assumption); (case zqe => exact rfl)) | (refine' room3 ?zqh ?zqe; (case zqh => assumption); (case zqe => exact rfl)) | (refine' roomz ?zqh; (case zqh => assumption)) | ktr_room
  k_with "UNITS" => first | (refine' room0 ?zqh ?zqe; (case zqh => assumption); (case zqe => exact rfl)) | (refine' room1 ?zqh ?zqe; (case zqh => assumption); (case zqe => exact rfl)) | (refine' room2 ?zqh ?zqe; (case zqh => assumption); (case zqe => exact rfl)) | (refine' room3 ?zqh ?zqe; (case zqh => assumption); (case zqe => exact rfl)) | exact lt_num rfl | ktr_units
  k_with "AR" => first | assumption | exact Nat.le_max_right _ _ | exact Nat.le_max_left _ _ | exact Nat.max_lt.mpr ⟨by assumption, by assumption⟩ | (refine' le_up ?zqh ?zqe; (case zqh => assumption); (case zqe => exact rfl)) | omega
  k_with "SUT" => first | exact sub_self | (refine sub_skip ?_; k_extra "SUT")
  k_with "SUB" => first | exact sub_nil | ((with_reducible refine' sub_cons ?zqsm ?_); (case zqsm => k_mem); k_extra "SUB") | k_extra "SUT"
  k_with "SUK" => first | exact sub_nil | k_extra "SUT" | k_extra "SUB"
  k_with "KEEP" => first | (refine keep_hd (List.Mem.head _) ?_; k_extra "KEEP") | exact keep_of (by k_extra "SUK") | ((with_reducible refine' keep_cons ?zqkm ?_); (case zqkm => k_mem); k_extra "KEEP")
  k_with "APQ" => (rename Apart _ _ => h9; first | exact Apart.at h9 (by k_extra "MEM") (by k_extra "MEM") | exact ap_at h9 (by k_extra "MEM") (by k_extra "MEM") | (clear h9; k_extra "APQ"))
  k_with "ANQ" => (rename AllNe _ _ => h9; first | exact AllNe.at h9 (by k_extra "MEM") | exact an_at h9 (by k_extra "MEM") | (clear h9; k_extra "ANQ"))
  k_with "ALQ" => (rename AllLt _ _ => h9; first | exact lt_ne h9 (by k_extra "MEM") | exact lt_en h9 (by k_extra "MEM") | exact lt_ne2 h9 (by assumption) (by k_extra "MEM") | exact lt_en2 h9 (by assumption) (by k_extra "MEM") | (clear h9; k_extra "ALQ"))
  k_with "NEQ" => first | assumption | exact Ne.symm (by assumption) | exact Nat.ne_of_lt (by assumption) | exact Nat.ne_of_gt (by assumption) | k_extra "ALQ" | k_extra "ANQ" | k_extra "APQ" | omega
  k_with "APS" => (rename Apart _ _ => h9; first | exact Apart.subA h9 rfl (by k_extra "SUK") | (clear h9; k_extra "APS"))
  k_with "NE1" => (refine neN ?_; (try dsimp only); k_extra "NEQ")
  k_with "ALL" => first | exact all_nil | (rename AllLt _ _ => h9; exact lt_sub h9 (by k_extra "SUT")) | (refine' all_cons ?zqa ?zqb; (case zqa => k_ne); (case zqb => k_all))
  k_with "ALN" => first | exact ne_nil | (refine ne_cons ?_ ?_; (focus ((try dsimp only); k_extra "NEQ")); k_extra "ALN")
  k_with "APM" => first | exact ap_nil | k_extra "APS" | (refine ap_cons ?_ ?_; (focus k_extra "ALN"); k_extra "APM")
  k_with "CA" => ((case zqkB => k_asm); (case zqkF => k_asm); (case zqkX => k_asm); (case zqkN => k_asm))
  k_with "CB" => ((case zqkT => k_asm); (case zqkK => first | exact rfl | assumption); (case zqkd => k_extra "ROOM"); (case zqku => k_extra "UNITS"))
  k_with "CE" => all_goals ((try ((with_reducible rename News _ _ _ _ => h9); simp only [List.nil_append, List.cons_append] at h9)); (try ((with_reducible rename Apart [] _ => h7); clear h7)); (try dsimp only [Option.getD_some, Option.getD_none]); (try k_sweep); (try k_fold))
  k_with "CZ" => all_goals ((try dsimp only [Option.getD_some, Option.getD_none]); (try k_sweep); (try k_fold))
  k_with "call builtin:len" => (k_here; (with_reducible show wpAny _ _ (call (Value.builtin "len") [Value.ref _]) _ _ _); k_dflt (refine' len_sym ?zqk1 ?zqk2 ?zqk3 ?_; (case zqk1 => k_asm); (case zqk2 => k_mem); (case zqk3 => k_extra "AR"); k_whole))
  k_with "getMethod ref" => (k_here; (with_reducible show wpAny _ _ (getMethod (Value.ref _) (PySem.Str.ofString "get") _) _ _ _); k_dflt (refine' get_method ?zqk1 ?zqk2 ?zqk3 ?_; (case zqk1 => k_asm); (case zqk2 => k_mem); (case zqk3 => with_reducible assumption); k_whole))
  k_with "call builtin:dict.get" => (k_here; (with_reducible show wpAny _ _ (call (Value.builtin "dict.get") [Value.ref _, Value.str _ _]) _ _ _); k_dflt (refine' get_call ?zqk0 ?zqk1 ?zqk2 ?zqk3 ?_; (case zqk1 => k_asm); (case zqk2 => k_mem); (case zqk3 => with_reducible assumption); (case zqk0 => with_reducible assumption); k_whole))
  k_with "LOCA" => first | exact LocArgs.nil | (refine' LocArgs.cons ?zqlk ?zqld ?zqlv ?zqlt; (case zqlk => kernel_rfl!); (case zqld => kernel_rfl); (case zqlv => first | rfl | assumption); (case zqlt => k_extra "LOCA"))
  k_with "eval Call" => (k_here; (with_reducible show wpAny _ _ (eval (Expr.Call (Expr.Name _ _) (Expr.Name _ _ :: _) [] _) _) _ _ _); first | ((with_reducible refine' callO_loc ?zqF ?zqX ?zqT ?zqe ?zqk ?zqa ?zqb ?zqc ?zql ?_); k_dflt ((case zqF => k_asm); (case zqX => k_asm); (case zqT => k_asm); (case zqa => exact rfl); (case zqb => kernel_rfl!); (case zqc => kernel_rfl); (case zqe => k_is); (case zqk => k_is); (case zql => k_extra "LOCA"); k_whole)) | ((with_reducible refine' callC_loc ?zqF ?zqX ?zqT ?zqe ?zqk ?zqa ?zqb ?zqc ?zql ?_); k_dflt ((case zqF => k_asm); (case zqX => k_asm); (case zqT => k_asm); (case zqa => exact rfl); (case zqb => kernel_rfl!); (case zqc => kernel_rfl); (case zqe => k_is); (case zqk => k_is); (case zql => k_extra "LOCA"); k_whole)))
  k_with "eval Attribute Name" => (k_here; (with_reducible refine' attrO_loc ?zqF ?zqv ?zqa ?zqb ?zqc ?_); k_dflt ((case zqF => k_asm); (case zqa => exact rfl); (case zqb => kernel_rfl!); (case zqc => kernel_rfl); (case zqv => first | rfl | assumption); k_whole))
  k_with "ite" => (k_here; first | (k_closed; first | ((with_reducible refine ite_pos ?zqk2 ?_); k_dflt (case zqk2 => decide)) | ((with_reducible refine ite_neg ?zqk2 ?_); k_dflt (case zqk2 => decide))) | (refine' ite_bf ?zqk1 ?_; (case zqk1 => first | assumption | exact decide_eq_false (by omega) | exact beq_eq_false_iff_ne.mpr (by omega))) | (refine' ite_bt ?zqk1 ?_; (case zqk1 => first | assumption | exact decide_eq_true (by omega) | exact beq_iff_eq.mpr (by omega))))
  k_with "call type:dict" => (k_here; (with_reducible show wpAny _ _ (call (Value.type "dict") [Value.ref _]) _ _ _); k_dflt (refine' dict_copyK ?zqF ?zqN ?zqb ?zqm ?zqD ?zql ?zqz ?_; (case zqF => k_asm); (case zqN => k_asm); (case zqb => exact Top.nolimit (by k_asm)); (case zqm => k_mem); (case zqD => with_reducible assumption); (case zql => with_reducible assumption); (case zqz => omega); k_whole); intro d' h' o' F' N' l1 lo' hd'; (try k_lt l1))
  k_with "OWN" => (intro p9 hp9; repeat' (first | exact hp9 | refine List.mem_append.mpr (Or.inr ?_) | refine List.mem_cons_of_mem _ ?_))
  k_with "eval Name" => (k_here; first | ((with_reducible refine' nameO_L ?zqF ?zqv ?_ ?zqa ?zqb ?zqc); k_dflt ((case zqF => k_asm); (case zqa => exact rfl); (case zqb => kernel_rfl!); (case zqc => kernel_rfl); (case zqv => first | rfl | assumption); k_whole)) | ((with_reducible refine' nameO_K ?zqF ?zqX ?zqT ?zqe ?_ ?zqa ?zqb ?zqc); k_dflt ((case zqF => k_asm); (case zqX => k_asm); (case zqT => k_asm); (case zqa => exact rfl); (case zqb => kernel_rfl!); (case zqc => kernel_rfl); (case zqe => k_is); k_whole)) | ((with_reducible refine' nameC_L ?zqF ?zqv ?_ ?zqa ?zqb ?zqc); k_dflt ((case zqF => k_asm); (case zqa => exact rfl); (case zqb => kernel_rfl!); (case zqc => kernel_rfl); (case zqv => first | rfl | assumption); k_whole)) | ((with_reducible refine' nameC_K ?zqF ?zqX ?zqT ?zqe ?_ ?zqa ?zqb ?zqc); k_dflt ((case zqF => k_asm); (case zqX => k_asm); (case zqT => k_asm); (case zqa => exact rfl); (case zqb => kernel_rfl!); (case zqc => kernel_rfl); (case zqe => k_is); k_whole)))
  trivial
theorem kwC14_1 : True := by
  k_with "call ref" => (k_here; (with_reducible show wpAny _ _ (call (Value.ref 779) _) _ _ _); k_dflt (refine' tells_callGU (any_ok ?zqhqs ?zqhi ?zqhDr ?zqhj ?zqhlo ?zqhus ?zqhlen ?zqhws ?zqhwl ?zqhok ?zqhnt) ?zqkB ?zqkF ?zqkX ?zqkN ?zqkS ?zqkU ?zqkT ?zqkK ?zqkd ?zqku ?_; k_extra "CA"; (case zqhDr => with_reducible assumption); (case zqkS => k_extra "SUK"); (case zqkU => k_updF); (case zqhqs => assumption); (case zqhi => with_reducible assumption); (case zqhj => with_reducible assumption); (case zqhlo => exact rfl); (case zqhus => assumption); (case zqhlen => k_extra "AR"); (case zqhws => assumption); (case zqhwl => k_extra "AR"); (case zqhok => assumption); (case zqhnt => (refine' AllNe.of fun q hq => ?_; revert q; k_extra "ALN")); k_extra "CB"; k_whole; intro x9Z d9Z l9Z da9Z n9Z n8Z n7Z a9Z o9Z u9Z ns9Z s91Z s92Z s93Z s94Z s95Z s96Z s97Z t9Z hNt9Z hRs9Z hWo9Z h' tk' F' N' A'; (try dsimp only at N'); k_extra "CE"))
  trivial
theorem tried_ok {w : World} {x d da xd dd ld : Addr} {t1 t2 t3 t4 t5 kt : Tok} {i : Nat} {av sh lo : Value} {n1 li n2 : Nat} {us : List Value} {o ex ed el : Obj} {kvs : List (Str × Value)} {ix dm : Addr} {y1 y2 y3 : Tok} {n9 : Nat} {ql q9 : Nat} {qs : List Value} {j : Nat} {xv dv lv : Addr} {v1 v2 v3 v4 v5 vt : Tok} {vsh vlo : Value} {m1 m2 : Nat} {ws : List Value} (hqs : qs = [] ∨ qs = [.ref ix]) (hi : i < 3) (hDr : Dr w av da o kvs xd dd ld ex ed el) (hj : j < 3) (hlo9 : lo = .bool false) (hus : ∀ u ∈ us, Okv i u) (hlen : us.length ≤ 600) (hws : ∀ u ∈ ws, Okv j u) (hwl : ws.length ≤ 600) (hok : us.length = 0 ∨ 0 < ws.length) :
    Tells w 16 817 [.ref x, .ref ql, .ref xv] [(ql, listOf qs.toArray q9), (ix, instObj 84 dm), (dm, dictOf [ent w.params (Str.ofString "kind") y1 (.str (Str.ofString "missing") y2), ent w.params (Str.ofString "attrs") y3 .none] n9), (x, instObj 113 d), (d, dictOf (vd w.params t1 t2 t3 t4 t5 (.str (kS i) kt) (.ref li) av sh lo) n1), (da, o), (xd, ex), (dd, ed), (ld, el), (li, listOf us.toArray n2), (xv, instObj 113 dv), (dv, dictOf (vd w.params v1 v2 v3 v4 v5 (.str (kS j) vt) (.ref lv) .none vsh vlo) m1), (lv, listOf ws.toArray m2)] [] (Gives [(ql, listOf qs.toArray q9), (ix, instObj 84 dm), (dm, dictOf [ent w.params (Str.ofString "kind") y1 (.str (Str.ofString "missing") y2), ent w.params (Str.ofString "attrs") y3 .none] n9), (x, instObj 113 d), (d, dictOf (vd w.params t1 t2 t3 t4 t5 (.str (kS i) kt) (.ref li) av sh lo) n1), (da, o), (xd, ex), (dd, ed), (ld, el), (li, listOf us.toArray n2), (xv, instObj 113 dv), (dv, dictOf (vd w.params v1 v2 v3 v4 v5 (.str (kS j) vt) (.ref lv) .none vsh vlo) m1), (lv, listOf ws.toArray m2)] fun P => ∀ T nt x' d' l' da' n0 n' n8 n9 av' o'', ∀ us' ns : List Value, ∀ te s1 s2 s3 s4 s5 s6 s7 t', Nts us.length ws.length ns → Rs j (max i j) us ws us' → Wo w av kvs av' da' o'' → P (.ref T) [(T, { cls := .type "tuple", data := .seq #[.ref x', .str (Str.ofString "") te, .ref nt] n0 }), (nt, listOf ns.toArray n9), (x', instObj 113 d'), (d', dictOf (vd w.params s1 s2 s3 s4 s5 (.str (kS (max i j)) t') (.ref l') av' s6 s7) n8), (l', listOf us'.toArray n'), (da', o'')]) := by
  refine wo ?_
  simp (disch :=
  k_dflt (
  refine wk ?_
  subst hlo9
  refine' tells_plainP (binds := [(Str.ofString "v", .ref x), (Str.ofString "indexes", .ref ql), (Str.ofString "value", .ref xv)]) ?k1 ?k2 ?k3 ?k4 ?k5 ?k6 ?k7 ?k8 ?k9 ?_
  case k1 => k_is
  case k2 => k_is
  case k3 => exact fun s => BindsTo.of_eq rfl
  case k4 => exact locs rfl
  case k5 => decide
  case k6 => rfl
  case k7 => rfl
  case k8 => rfl
  case k9 => decide
  intro p loose mean mg mb dp un gd cn cs L a ccd cl outer base g L' s Pq B F K N T hdp hun hPq e9 A9
  (try dsimp only)
  repeat' (k_extra "S0"; k_extra "S1")
  (rename Wo _ _ _ _ _ _ => hWo); (rename Rs _ _ _ _ _ => hRs); (rename Nts _ _ _ => hNt); ((try dsimp only); exact post_of _ _ rfl (by k_asm) (by k_asm) (by k_extra "SUB") (by k_extra "KEEP") (⟨(by k_extra "APM"), fun P hP => hP _ _ _ _ _ _ _ _ _ _ _ _ _ _ _ _ _ _ _ _ _ _ _ hNt hRs hWo⟩))
  )) only [↓wt]
theorem kwC14_2 : True := by
  k_with "call ref" => (k_here; (with_reducible show wpAny _ _ (call (Value.ref 779) _) _ _ _); k_dflt (refine' tells_call0 (any_null ?zqhqs ?zqhi ?zqhDr ?zqhu0) ?zqkB ?zqkF ?zqkX ?zqkN ?zqkS ?zqkT ?zqkK ?zqkd ?zqku ?_; k_extra "CA"; (case zqhDr => with_reducible assumption); (case zqkS => k_extra "SUK"); (case zqhqs => assumption); (case zqhi => with_reducible assumption); (case zqhu0 => k_extra "AR"); k_extra "CB"; k_whole; intro  h' tk' F' N'; k_extra "CZ"))
  trivial
theorem tried_null {w : World} {x d da xd dd ld : Addr} {t1 t2 t3 t4 t5 kt : Tok} {i : Nat} {av sh lo : Value} {n1 li n2 : Nat} {us : List Value} {o ex ed el : Obj} {kvs : List (Str × Value)} {ix dm : Addr} {y1 y2 y3 : Tok} {n9 : Nat} {ql q9 : Nat} {qs : List Value} {xv dv : Addr} {z1 z2 z3 : Tok} {m1 : Nat} (hqs : qs = [] ∨ qs = [.ref ix]) (hi : i < 3) (hDr : Dr w av da o kvs xd dd ld ex ed el) (hu0 : us.length = 0) :
    Tells w 16 817 [.ref x, .ref ql, .ref xv] [(ql, listOf qs.toArray q9), (ix, instObj 84 dm), (dm, dictOf [ent w.params (Str.ofString "kind") y1 (.str (Str.ofString "missing") y2), ent w.params (Str.ofString "attrs") y3 .none] n9), (x, instObj 113 d), (d, dictOf (vd w.params t1 t2 t3 t4 t5 (.str (kS i) kt) (.ref li) av sh lo) n1), (da, o), (xd, ex), (dd, ed), (ld, el), (li, listOf us.toArray n2), (xv, instObj 63 dv), (dv, dictOf [ent w.params (Str.ofString "kind") z1 (.str (Str.ofString "NULL") z2), ent w.params (Str.ofString "attrs") z3 .none] m1)] [] (Gives [(ql, listOf qs.toArray q9), (ix, instObj 84 dm), (dm, dictOf [ent w.params (Str.ofString "kind") y1 (.str (Str.ofString "missing") y2), ent w.params (Str.ofString "attrs") y3 .none] n9), (x, instObj 113 d), (d, dictOf (vd w.params t1 t2 t3 t4 t5 (.str (kS i) kt) (.ref li) av sh lo) n1), (da, o), (xd, ex), (dd, ed), (ld, el), (li, listOf us.toArray n2), (xv, instObj 63 dv), (dv, dictOf [ent w.params (Str.ofString "kind") z1 (.str (Str.ofString "NULL") z2), ent w.params (Str.ofString "attrs") z3 .none] m1)] fun P => ∀ T nt n0 n9 te, P (.ref T) [(T, { cls := .type "tuple", data := .seq #[.ref x, .str (Str.ofString "") te, .ref nt] n0 }), (nt, listOf ([] : List Value).toArray n9)]) := by
  refine wo ?_
  simp (disch :=
  k_dflt (
  refine wk ?_
  refine' tells_plainP (binds := [(Str.ofString "v", .ref x), (Str.ofString "indexes", .ref ql), (Str.ofString "value", .ref xv)]) ?k1 ?k2 ?k3 ?k4 ?k5 ?k6 ?k7 ?k8 ?k9 ?_
  case k1 => k_is
  case k2 => k_is
  case k3 => exact fun s => BindsTo.of_eq rfl
  case k4 => exact locs rfl
  case k5 => decide
  case k6 => rfl
  case k7 => rfl
  case k8 => rfl
  case k9 => decide
  intro p loose mean mg mb dp un gd cn cs L a ccd cl outer base g L' s Pq B F K N T hdp hun hPq e9 A9
  (try dsimp only)
  repeat' (k_extra "S0"; k_extra "S1")
  ((try dsimp only); exact post_of _ _ rfl (by k_asm) (by k_asm) (by k_extra "SUB") (by k_extra "KEEP") (⟨(by k_extra "APM"), fun P hP => hP _ _ _ _ _⟩))
  )) only [↓wt]
end
section
open PySem PySem.W PyProof.Rows PySem.Calls PySem.Spec
set_option maxRecDepth 100000
/-- a call of a def of the text from the law's own frame, within which a Refusal is caught -/
def Tells0 (w : World) (d : Nat) (f : Addr) (args : List Value) (pre : List (Addr × Obj)) (R : Value → List (Addr × Obj) → Prop) : Prop :=
  ∀ (p : Program) (loose : List Str) (mean : ExcName → Option Value) (mg mb : Str → Option Value)
    (dp un : Nat) (gd : Option (List Code)) (cn : Str) (cs : Scope) (a : Addr) (ccd : Value) (cl : List (Str × Addr)) (A₀ : Around) (base h₀ : Heap) (L : Addr) (m : Str → Option Value) (s : Shared) (Q E : Value → Shared → Prop),
    Below A₀ base [] h₀ → Fr h₀ L s.heap m → (fragK.heap_1 w.params).In h₀ → (fragK.heap_1 w.params).In base → News h₀ L s.heap pre → Top p loose mean mg mb h₀ → Top p loose mean mg mb base → cs.kind = .function → dp + d < recursionLimit → un + 8 * d < cLine →
    (∀ r h' tk' new, Fr h₀ L h' m → News h₀ L h' new → (∀ b o, b ≠ L → s.heap.get? b = some o → h'.get? b = some o) → Fresh s.heap pre new → R r new → Q r { s with heap := h', toks := tk' }) →
    wpAny (model PySem.Challenge.rw_pq1344_01.row.prog w) (ktrTop dp un gd cn cs L a ccd cl []) (call (.ref f) args) Q E s
/-- a body's end, some frames below having turned -/
def PostS (fs : List Addr) (g : Heap) (L : Addr) (pre : List (Addr × Obj)) (R : Value → List (Addr × Obj) → Prop) (s : Shared) (fl : Flow) (s' : Shared) : Prop :=
  (∃ hh tk, s' = { s with heap := hh, toks := tk }) ∧ ∃ g' m' news' new, KtsTurn fs g g' ∧ Fr g' L s'.heap m' ∧ News g' L s'.heap news' ∧ (∀ q ∈ new, q ∈ news') ∧ (∀ q ∈ pre, q ∈ news') ∧ R (match fl with | .ret v => v | _ => .none) new
theorem postS_of {fs : List Addr} {g g' hh : Heap} {L : Addr} {pre news' : List (Addr × Obj)} {R : Value → List (Addr × Obj) → Prop} {s : Shared} {fl : Flow} {tk : Nat} {m' : Str → Option Value} (new : List (Addr × Obj)) (v : Value)
    (hv : (match fl with | .ret v => v | _ => .none) = v) (T : KtsTurn fs g g') (F : Fr g' L hh m') (N : News g' L hh news') (h1 : ∀ q ∈ new, q ∈ news') (h2 : ∀ q ∈ pre, q ∈ news') (h3 : R v new) : PostS fs g L pre R s fl { s with heap := hh, toks := tk } :=
  ⟨⟨_, _, rfl⟩, g', m', news', new, T, F, N, h1, h2, by rw [hv]; exact h3⟩
section
variable {w : World} {d : Nat} {f : Addr} {args : List Value} {pre : List (Addr × Obj)} {R : Value → List (Addr × Obj) → Prop}
  {name qual : Str} {params : Arguments} {body : List Stmt} {scope : Scope} {dV kV doc pm cdv ct oc : Value} {an od : Option Addr} {osl : Array (Option Value)} {binds : List (Str × Value)}
theorem tells_catch (ho : (fragK.heap_1 w.params).lookup f = some ⟨oc, od, .func (fnOf name qual params body scope dV kV doc pm an cdv ct), osl⟩) (hcd : codeIn (fragK.heap_1 w.params) cdv qual = true)
    (hbind : ∀ s, BindsTo s (fnOf name qual params body scope dV kV doc pm an cdv ct) ⟨args, []⟩ binds) (hloc : ∀ y ∈ binds, scope.names.lookup y.1 = some .local)
    (hcell : ∀ x ∈ scope.names, x.2 ≠ .cell) (hco : scope.isCoroutine = false) (hgen : scope.isGenerator = false) (hk : scope.kind = .function) (hd0 : 0 < d)
    (h : ∀ (p : Program) (loose : List Str) (mean : ExcName → Option Value) (mg mb : Str → Option Value) (dp un : Nat) (gd : Option (List Code)) (cn : Str) (cs : Scope) (L a : Addr) (ccd : Value) (cl : List (Str × Addr)) (base g : Heap) (L' : Addr) (s : Shared),
      Below (ktrTop dp un gd cn cs L a ccd cl []) base [envX cn cs L a ccd cl] g → Fr g L' s.heap (fun y => binds.reverse.lookup y) → (fragK.heap_1 w.params).In g → (fragK.heap_1 w.params).In base → News g L' s.heap pre → Top p loose mean mg mb g → Top p loose mean mg mb base → KtsDicts ([envX cn cs L a ccd cl].filterMap (·.frame)) g → dp + d < recursionLimit → un + 8 * d < cLine →
      wpAny (model PySem.Challenge.rw_pq1344_01.row.prog w) ((ktrTop dp un gd cn cs L a ccd cl []).deeper (envOf qual scope L' f cdv)) (execs body (envOf qual scope L' f cdv))
        (PostS ([envX cn cs L a ccd cl].filterMap (·.frame)) g L' pre R s) (fun _ _ => False) s) : Tells0 w d f args pre R := by
  refine wo ?_
  simp (disch :=
  k_dflt (
  refine wk ?_
  intro p loose mean mg mb dp un gd cn cs a ccd cl A₀ base h₀ L m s Q E B F X XB N T TB hck hdp hun hret
  refine wpAny_call ?_
  obtain ⟨FG, BG, st, lv⟩ := groundX (A := ktrTop dp un gd cn cs L a ccd cl []) (env := envX cn cs L a ccd cl) (R := fun r s' => ∀ v, r = .ok (.ret v) → Fr h₀ L s'.heap m) B F N rfl rfl hck
  obtain ⟨oL, es, ep, hLg, hLd, hLk, hLf⟩ := FG.ns
  have hfs : ∀ b, b ∈ [envX cn cs L a ccd cl].filterMap (·.frame) → b = L := fun b hb => by simpa using hb
  refine codeAny_call_def (fd := fnOf name qual params body scope dV kV doc pm an cdv ct) (body := body) (binds := binds) (by show dp < recursionLimit; omega) ((X.keeps F.keep) _ _ ho) rfl (T.nolimit.keeps F.keep) (codeRec_of (X.keeps F.keep) hcd) rfl (hbind _) hcell hloc (fun h₁ hns hk₁ => ?_) hco hgen hk
  refine wpAny_mono (h p loose mean mg mb dp un gd cn cs L a ccd cl base _ s.heap.objs.size { s with heap := h₁, toks := s.toks + binds.length } BG ⟨hns, fun b o e => hk₁ b o (of_hideAll _ e), Nat.le_of_eq (hideAll_size _ _)⟩ (X.keeps st) XB
    (fun q hq => ⟨hk₁ _ _ (N q hq).1, Nat.ne_of_lt (Heap.lt_size (N q hq).1), hideAll_none _ (List.mem_map_of_mem hq)⟩) (T.keeps st) TB (fun b hb => ⟨oL, es, ep, by rw [hfs b hb]; exact hLg, hLd⟩) hdp hun) (fun fl s' hl => ?_) fun _ _ x => x.elim
  obtain ⟨⟨hh, tk, rfl⟩, g', m', news', new, T', F', N', h1, h2, h3⟩ := hl
  have nL₀ : h₀.get? L = none := kts_self F
  obtain ⟨sl, hs⟩ := T'.up hLg
  have hLh : hh.get? L = some { oL with slots := sl } := F'.keep _ _ hs
  have F₁ : Fr h₀ L hh m := ⟨⟨_, es, ep, hLh, hLd, hLk, hLf⟩, fun b o e => F'.keep b o (T'.other b o (st b o e) (fun q => by rw [hfs b q, nL₀] at e; cases e)), F.above⟩
  have N₁ : News h₀ L hh new := fun q hq => by
    have z := N' q (h1 q hq)
    refine ⟨z.1, fun y => ?_, ?_⟩
    · have z2 := z.2.2
      rw [y, hs] at z2; cases z2
    · cases q1 : h₀.get? q.1 with
      | none => rfl
      | some o =>
        obtain ⟨sl', hs'⟩ := T'.up (st _ _ q1)
        have z2 := z.2.2
        rw [hs'] at z2; cases z2
  refine hret _ hh tk new F₁ N₁ (fun b o hb e => ?_) (fun q hq hn => ?_) h3
  · by_cases hm : b ∈ pre.map (·.1)
    · obtain ⟨q, hq, rfl⟩ := List.mem_map.mp hm
      have e1 := (N q hq).1
      rw [e] at e1
      cases e1
      exact (N' q (h2 q hq)).1
    · exact F'.keep b o (T'.other b o (hideAll_get _ e hm) fun q => hb (hfs b q))
  · have z := (N' q (h1 q hq)).2.2
    cases e : s.heap.get? q.1 with
    | none => rfl
    | some o =>
      obtain ⟨sl', hs'⟩ := T'.up (hideAll_get _ e hn)
      rw [hs'] at z; cases z
  )) only [↓wt]
end
section
variable {prog : Program} {w : World} {A₀ : Around} {E : Value → Shared → Prop} {s' : Shared} {base g G : Heap} {outer : List Env} {L a e D : Addr} {oD : Obj} {m : Str → Option Value} {name : Str} {scope : Scope} {cd : Value}
  {n : Str} {b₀ : Stmt} {suite : List Stmt} {pos np : Pos} {rest : List ExceptHandler} {Q : Flow → Shared → Prop} {news : List (Addr × Obj)} {KF : Frag}
  {p : Program} {loose : List Str} {mean : ExcName → Option Value} {mg mb : Str → Option Value} {x : Str}
/-- a Refusal is caught; its dict is at hand -/
theorem caughtD (R : RaisedE base G (envOf name scope L a cd :: outer) e D oD s'.heap) (F : Fr g L G m) (N : News g L G news) (K : Below A₀ base outer g) (XB : KF.In base) (TB : Top p loose mean mg mb base)
    (ex : nsIn KF mainGlobals x = some (some (.ref 44))) (q : ktsIn KF 44 "BaseException" = true)
    (k : ∀ h' g' oe vs tk, KtsTurn (outer.filterMap (·.frame)) g g' → Fr g' L h' (fun y => if y = n then some (.ref e) else m y) → News g' L h' ((e, oe) :: (D, oD) :: news) → oe.cls = .ref 44 → oe.dict = some D → oe.data = .fields vs → (∀ q ∈ news, q.1 ≠ D) → Below A₀ base outer g' → KF.In g' → Top p loose mean mg mb g' →
      wpAny (model prog w) ((A₀.deeper (envOf name scope L a cd)).mark (some (.ref e))) (execs (b₀ :: suite) (envOf name scope L a cd))
        (fun f s₄ => wpAny (model prog w) (A₀.deeper (envOf name scope L a cd)) (do bindName (envOf name scope L a cd) n .none; unbindBehindTheSuite (envOf name scope L a cd) n pos) (fun _ s₅ => Q f s₅) E s₄)
        (AsSuiteRaised (model prog w) ((A₀.deeper (envOf name scope L a cd)).mark (some (.ref e))) (envOf name scope L a cd) n pos (notedBy (model prog w) ((A₀.deeper (envOf name scope L a cd)).mark (some (.ref e))) (envOf name scope L a cd) (cameBackBy (model prog w) (A₀.deeper (envOf name scope L a cd)) (envOf name scope L a cd) E)))
        { s' with heap := h', toks := tk })
    (hk : scope.kind = .function := by rfl) (hlo : (envOf name scope L a cd).kindOf n = some .local := by rfl) (hx : (envOf name scope L a cd).kindOf x = some .globalImplicit := by rfl) (hd : (x == ("__debug__" : Str)) = false := by decide) :
    wpAny (model prog w) (A₀.deeper (envOf name scope L a cd)) (noteFrame (.ref e) (envOf name scope L a cd))
      (fun _ s₂ => wpAny (model prog w) (A₀.deeper (envOf name scope L a cd)) (setFlight (.ref e) none) (fun _ s₃ =>
        wpAny (model prog w) (A₀.deeper (envOf name scope L a cd)) (handleBy (.ref e) (envOf name scope L a cd) (.ExceptHandler (some (.Name x np)) (some n) (b₀ :: suite) pos :: rest)) Q E s₃) E s₂) E s' := by
  refine wo ?_
  simp (disch :=
  k_dflt (
  refine wk ?_
  obtain ⟨B, a0, hB, hBG, hBD, hGD, hfl, hDi, hup⟩ := R
  have hL : B.get? L = none := by
    obtain ⟨_, ⟨L', _, hf, hn', _⟩, _⟩ := hfl.2.2.1
    obtain rfl : L = L' := Option.some.inj hf
    exact hn'
  obtain ⟨f1, f2, f3, f4⟩ := hfl
  refine noteD_on (Around.frames_deeper K.stack) f3 rfl f4 f1 f2 hDi fun h₄ y4 d4 => ?_
  obtain ⟨x1, x2, x3, x4⟩ := y4
  refine flightD (s := { s' with heap := h₄ }) x1 x2 x3 d4 fun h₅ w1 w2 w3 w4 d5 => ?_
  have hsm₅ : s'.heap.UpToSlots h₅ := Heap.UpToSlots.trans x4 w4
  obtain ⟨g₅, T₅, F₅, K₅⟩ := kts_ground K F hBG w1 (hup.trans hsm₅)
  have X₅ : KF.In g₅ := XB.keeps K₅.stays
  have P₅ : TopRead p loose mg mb g₅ := topRead_of (TB.keeps K₅.stays)
  obtain ⟨ob, hob, hobc⟩ := Heap.FlyingW.there ⟨w1, f2, w2, w3⟩
  obtain ⟨nm, q', N', bs, bm, hdct, sn, sub, ab, col, dd, k0, k1, k2, k3, k5, newId, hC, hbase, hbT⟩ := kts_cls X₅ q
  have hC₅ := F₅.keep _ _ hC
  refine wpAny_handleBy_cons (codeAny_handlers_test (name_K F₅ X₅ P₅ ex ?_ hk hx hd)) (by intro q; cases q)
  refine wpAny_excMatches_sub_self hC₅ hob hobc hbase (codeAny_handlers_suite_as ?_)
  refine flightD (s := { s' with heap := h₅ }) w1 w2 w3.at d5 fun h₆ v1 v2 v3 v4 d6 => ?_
  have hsm₆ : G.UpToSlots h₆ := (hup.trans hsm₅).trans v4
  obtain ⟨g₆, T₆, F₆, K₆⟩ := kts_ground K F hBG v1 hsm₆
  obtain ⟨oe, vs, hoe, hoec, hoed, _⟩ := Heap.FlyingW.first ⟨v1, f2, v2, v3⟩
  obtain ⟨oe', hoe', hoeD⟩ := d6
  rw [hoe] at hoe'
  cases hoe'
  have ne₆ : g₆.get? e = none := T₆.none_ _ (kts_fresh F hBG f2 fun o ho m => by
    obtain ⟨_, o', ho', hd⟩ := K.frames.mem m
    rw [ho] at ho'
    cases ho'
    obtain ⟨sl, hs⟩ := hsm₆ _ _ (F.keep _ _ ho) hd
    rw [hoe] at hs
    cases hs
    exact hd _ hoed)
  obtain ⟨oL, esL, epL, hLG, hLd, _⟩ := F.ns
  have heL : e ≠ L := fun z => by
    obtain ⟨sl, hs⟩ := hsm₆ _ _ hLG (fun vs q => by rw [hLd] at q; cases q)
    rw [← z, hoe] at hs
    cases hs
    rw [hoed] at hLd
    cases hLd
  have hDL : D ≠ L := fun z => by rw [z, hLG] at hGD; cases hGD
  have nD₆ : g₆.get? D = none := T₆.none_ _ (kts_none F.keep hGD)
  have Nl : News g₆ L h₆ ((e, oe) :: (D, oD) :: news) := fun q hq => by
    rcases List.mem_cons.mp hq with rfl | hq
    · exact ⟨hoe, heL, ne₆⟩
    rcases List.mem_cons.mp hq with rfl | hq
    · exact ⟨v1 _ _ hBD, hDL, nD₆⟩
    obtain ⟨z1, z2, z3⟩ := N q hq
    refine ⟨v1 _ _ (hBG _ _ z1 fun hm => ?_), z2, T₆.none_ _ z3⟩
    rcases kts_mem hm with y | y
    · exact z2 y
    · obtain ⟨_, o', ho', _⟩ := K.frames.mem y
      rw [z3] at ho'
      cases ho'
  refine stN F₆ Nl (fun h₇ F₇ N₇ => ?_) hk hlo
  exact k h₇ g₆ oe vs _ T₆ F₇ N₇ hoec hoeD hoed (fun q hq z => by have := (N q hq).1; rw [z, hGD] at this; cases this) K₆ (XB.keeps K₆.stays) (TB.keeps K₆.stays)
  )) only [↓wt]
end
end
section
open PySem PySem.W PyProof.Rows PySem.Calls PySem.Spec PySem.Builtin PySem.Builtin.ObjectAttr
set_option maxRecDepth 100000
section
variable {prog : Program} {w : World} {K : Frag} {C : Addr} {s : Shared} {e D : Addr} {oe : Obj} {vs : Array Value} {msg : Str} {tk tm : Tok} {E : Value → Shared → Prop} {Q : Value → Shared → Prop} {A : Around} {expr : Bool}
/-- error.message -/
theorem exc_get (X : K.In s.heap) (he : s.heap.get? e = some oe) (hc : oe.cls = .ref C) (hdi : oe.dict = some D) (hda : oe.data = .fields vs) (hD : s.heap.get? D = some (msgD w msg tk tm))
    (hga : findIn K (.ref C) "__getattribute__" = some (some (.builtin "BaseException.__getattribute__"))) (hgt : findIn K (.ref C) "__getattr__" = some none) (hh : hasDictIn K C = true) (ha : findIn K (.ref C) (Str.ofString "message") = some none)
    (hmr : mroIn K C (.type "BaseException") = some true)
    (h : Q (.str msg tm) { s with toks := s.toks + 1 }) : wpAny (model prog w) A (getAttr (.ref e) (Str.ofString "message") expr) Q E s := by
  refine wo ?_
  simp (disch :=
  k_dflt (
  refine wk ?_
  obtain ⟨hp, g, d, t, os⟩ := s
  have I : InstAt hp e oe C (some (msgD w msg tk tm)) := ⟨he, hc, by obtain ⟨_, _, _, _⟩ := oe; cases hda; rfl, by rw [hdi]; exact hD⟩
  have hf : findObj K C (some (msgD w msg tk tm)) (Str.ofString "message") = some (.value (.str msg tm)) := findObj_own hh ha rfl (by rw [lookIn_dict]; rfl)
  have L0 := I.type (M := model prog w)
  have L1 := looks_findIn (M := model prog w) X hga
  have L2 := looks_findIn (M := model prog w) X hgt
  have L3 := looks_find (M := model prog w) X I hf
  unfold getAttr getAttrBy
  refine wpAny_bind (wpAny_mkText (wpAny_holding (wpAny_bind (L0.at (wpAny_bind (L1.at ?_))))))
  have FA := PySem.F.attr_Exception
  have hk : builtinKind "BaseException.__getattribute__" = some .slot := by decide +kernel
  have hsplit : splitId "BaseException.__getattribute__" = some ("BaseException", "__getattribute__") := by decide +kernel
  have hx2 : (Value.builtin "BaseException.__getattribute__" == Value.builtin "object.__getattribute__") = false := by decide +kernel
  have sub : Looks (model prog w) hp (isInstance (.ref e) (.type "BaseException")) true := L0.andThen (looks_mroIn X hmr)
  show wpAny _ _ (if (onTheHeap (Value.ref C) && Value.builtin "BaseException.__getattribute__" == Value.builtin "object.__getattribute__") = true then _ else _) _ _ _
  rw [hx2, Bool.and_false, if_neg (by decide)]
  unfold getAttrByItsOwn hookBefore
  refine wpAny_bind ?_
  rw [if_pos (by rfl)]
  refine L2.at (wpAny_bind (wpAny_attempt (wpAny_holding ?_)))
  unfold callGetattribute
  rw [if_neg (by cases expr <;> decide)]
  unfold boundAndCalled
  rw [FA.ga.bind]
  refine wpAny_bind (wpAny_pure ?_)
  show wpAny _ _ (call (.builtin "BaseException.__getattribute__") [.ref e, .str (Str.ofString "message") t]) _ _ _
  refine wpAny_call (codeAny_call_builtin FA.ga.plain PySem.F.entry_bexc_ga (@check_slot (model prog w) _ _ ⟨hp, g, d, t + 1, os⟩ "BaseException.__getattribute__" "BaseException" "__getattribute__" (.ref e) [.str (Str.ofString "message") t] [] _ hk hsplit sub (PySem.F.args_bexc_ga _ _) ?_))
  refine wpAny_bind (wpAny_pure (wpAny_bind (wpAny_pure (wpAny_bind (L0.at (wpAny_bind (L3.at ?_)))))))
  exact wpAny_pure (show wpAny _ _ (handedOut (.str msg tm)) _ _ _ from wpAny_pure h)
  )) only [↓wt]
end
end
section
open PySem PySem.W PyProof.Rows PySem.Calls
set_option Elab.async false
set_option maxRecDepth 100000 
set_option maxHeartbeats 8000000 
theorem kwC15_0 : True := by
  k_with_none
  k_with "MEM" => first | (with_reducible exact List.mem_cons_self) | ((with_reducible refine List.mem_cons_of_mem _ ?_); k_extra "MEM")
  k_with "ENTER" => (refine' code_defP ?zqk1 ?zqk2 ?zqk3 ?zqk4 ?zqk5 ?zqkA ?zqkF ?zqkK ?zqk6 ?zqk7 ?zqk8 ?zqk9 ?zqkB ?_ ?zqc2 ?zqc3 ?zqc4 ?zqc5; (case zqkA => exact rfl); (case zqkF => exact rfl); (case zqkK => exact rfl); (case zqk1 => k_asm); (case zqk2 => k_asm); (case zqk3 => k_asm); (case zqk4 => k_asm); (case zqk5 => k_asm); (case zqk6 => k_is); (case zqk7 => k_is); (case zqk8 => k_room); (case zqk9 => first | exact BindsTo.of_eq rfl | exact binds_K (by k_in) rfl (by k_is) rfl rfl rfl); (case zqc5 => decide); (case zqkB => exact locs rfl); (case zqc2 => exact rfl); (case zqc3 => exact rfl); (case zqc4 => exact rfl); k_whole; intro g' L' h' Q' FG' F' N' B' X' T' hQ' e9 A9; (try dsimp only); (try k_lift B'); (try k_fold))
  k_with "S0" => ((fail_if_success (with_reducible show Post _ _ _ _ _ _ _ _)); (fail_if_success (with_reducible show LoopP _ _ _ _ _ _ _ _)); (fail_if_success (with_reducible show CmpP _ _ _ _ _ _ _ _ _ _ _ _ _ _ _)))
  k_with "S1" => first | (k_unfold; (try dsimp only)) | (k_end; wrow_close) | walk1 | (with_reducible refine hand (by assumption) ?_; try dsimp only) | (dsimp only; walk1) | (leave1; try dsimp only)
  k_with "ROOM" => first | (refine' room0 ?zqh ?zqe; (case zqh => assumption); (case zqe => exact rfl)) | (refine' room1 ?zqh ?zqe; (case zqh => assumption); (case zqe => exact rfl)) | (refine' room2 ?zqh ?zqe; (case zqh => assumption); (case zqe => exact rfl)) | (refine' room3 ?zqh ?zqe; (case zqh => assumption); (case zqe => exact rfl)) | (refine' roomz ?zqh; (case zqh => assumption)) | ktr_room
  k_with "UNITS" => first | (refine' room0 ?zqh ?zqe; (case zqh => assumption); (case zqe => exact rfl)) | (refine' room1 ?zqh ?zqe; (case zqh => assumption); (case zqe => exact rfl)) | (refine' room2 ?zqh ?zqe; (case zqh => assumption); (case zqe => exact rfl)) | (refine' room3 ?zqh ?zqe; (case zqh => assumption); (case zqe => exact rfl)) | exact lt_num rfl | ktr_units
  k_with "AR" => first | assumption | exact Nat.le_max_right _ _ | exact Nat.le_max_left _ _ | exact Nat.max_lt.mpr ⟨by assumption, by assumption⟩ | (refine' le_up ?zqh ?zqe; (case zqh => assumption); (case zqe => exact rfl)) | omega
  k_with "SUT" => first | exact sub_self | (refine sub_skip ?_; k_extra "SUT")
  k_with "SUB" => first | exact sub_nil | ((with_reducible refine' sub_cons ?zqsm ?_); (case zqsm => k_mem); k_extra "SUB") | k_extra "SUT"
  k_with "SUK" => first | exact sub_nil | k_extra "SUT" | k_extra "SUB"
  k_with "KEEP" => first | (refine keep_hd (List.Mem.head _) ?_; k_extra "KEEP") | exact keep_of (by k_extra "SUK") | ((with_reducible refine' keep_cons ?zqkm ?_); (case zqkm => k_mem); k_extra "KEEP")
  k_with "APQ" => (rename Apart _ _ => h9; first | exact Apart.at h9 (by k_extra "MEM") (by k_extra "MEM") | exact ap_at h9 (by k_extra "MEM") (by k_extra "MEM") | (clear h9; k_extra "APQ"))
  k_with "ANQ" => (rename AllNe _ _ => h9; first | exact AllNe.at h9 (by k_extra "MEM") | exact an_at h9 (by k_extra "MEM") | (clear h9; k_extra "ANQ"))
  k_with "ALQ" => (rename AllLt _ _ => h9; first | exact lt_ne h9 (by k_extra "MEM") | exact lt_en h9 (by k_extra "MEM") | exact lt_ne2 h9 (by assumption) (by k_extra "MEM") | exact lt_en2 h9 (by assumption) (by k_extra "MEM") | (clear h9; k_extra "ALQ"))
  k_with "NEQ" => first | assumption | exact Ne.symm (by assumption) | exact Nat.ne_of_lt (by assumption) | exact Nat.ne_of_gt (by assumption) | k_extra "ALQ" | k_extra "ANQ" | k_extra "APQ" | omega
  k_with "APS" => (rename Apart _ _ => h9; first | exact Apart.subA h9 rfl (by k_extra "SUK") | (clear h9; k_extra "APS"))
  k_with "NE1" => (refine neN ?_; (try dsimp only); k_extra "NEQ")
  k_with "ALL" => first | exact all_nil | (rename AllLt _ _ => h9; exact lt_sub h9 (by k_extra "SUT")) | (refine' all_cons ?zqa ?zqb; (case zqa => k_ne); (case zqb => k_all))
  k_with "ALN" => first | exact ne_nil | (refine ne_cons ?_ ?_; (focus ((try dsimp only); k_extra "NEQ")); k_extra "ALN")
  k_with "APM" => first | exact ap_nil | k_extra "APS" | (refine ap_cons ?_ ?_; (focus k_extra "ALN"); k_extra "APM")
  k_with "CA" => ((case zqkB => k_asm); (case zqkF => k_asm); (case zqkX => k_asm); (case zqkN => k_asm))
  k_with "CB" => ((case zqkT => k_asm); (case zqkK => first | exact rfl | assumption); (case zqkd => k_extra "ROOM"); (case zqku => k_extra "UNITS"))
  k_with "CE" => all_goals ((try ((with_reducible rename News _ _ _ _ => h9); simp only [List.nil_append, List.cons_append] at h9)); (try ((with_reducible rename Apart [] _ => h7); clear h7)); (try dsimp only [Option.getD_some, Option.getD_none]); (try k_sweep); (try k_fold))
  k_with "CZ" => all_goals ((try dsimp only [Option.getD_some, Option.getD_none]); (try k_sweep); (try k_fold))
  k_with "call builtin:len" => (k_here; (with_reducible show wpAny _ _ (call (Value.builtin "len") [Value.ref _]) _ _ _); k_dflt (refine' len_sym ?zqk1 ?zqk2 ?zqk3 ?_; (case zqk1 => k_asm); (case zqk2 => k_mem); (case zqk3 => k_extra "AR"); k_whole))
  k_with "getMethod ref" => (k_here; (with_reducible show wpAny _ _ (getMethod (Value.ref _) (PySem.Str.ofString "get") _) _ _ _); k_dflt (refine' get_method ?zqk1 ?zqk2 ?zqk3 ?_; (case zqk1 => k_asm); (case zqk2 => k_mem); (case zqk3 => with_reducible assumption); k_whole))
  k_with "call builtin:dict.get" => (k_here; (with_reducible show wpAny _ _ (call (Value.builtin "dict.get") [Value.ref _, Value.str _ _]) _ _ _); k_dflt (refine' get_call ?zqk0 ?zqk1 ?zqk2 ?zqk3 ?_; (case zqk1 => k_asm); (case zqk2 => k_mem); (case zqk3 => with_reducible assumption); (case zqk0 => with_reducible assumption); k_whole))
  k_with "LOCA" => first | exact LocArgs.nil | (refine' LocArgs.cons ?zqlk ?zqld ?zqlv ?zqlt; (case zqlk => kernel_rfl!); (case zqld => kernel_rfl); (case zqlv => first | rfl | assumption); (case zqlt => k_extra "LOCA"))
  k_with "eval Call" => (k_here; (with_reducible show wpAny _ _ (eval (Expr.Call (Expr.Name _ _) (Expr.Name _ _ :: _) [] _) _) _ _ _); first | ((with_reducible refine' callO_loc ?zqF ?zqX ?zqT ?zqe ?zqk ?zqa ?zqb ?zqc ?zql ?_); k_dflt ((case zqF => k_asm); (case zqX => k_asm); (case zqT => k_asm); (case zqa => exact rfl); (case zqb => kernel_rfl!); (case zqc => kernel_rfl); (case zqe => k_is); (case zqk => k_is); (case zql => k_extra "LOCA"); k_whole)) | ((with_reducible refine' callC_loc ?zqF ?zqX ?zqT ?zqe ?zqk ?zqa ?zqb ?zqc ?zql ?_); k_dflt ((case zqF => k_asm); (case zqX => k_asm); (case zqT => k_asm); (case zqa => exact rfl); (case zqb => kernel_rfl!); (case zqc => kernel_rfl); (case zqe => k_is); (case zqk => k_is); (case zql => k_extra "LOCA"); k_whole)))
  k_with "eval Attribute Name" => (k_here; (with_reducible refine' attrO_loc ?zqF ?zqv ?zqa ?zqb ?zqc ?_); k_dflt ((case zqF => k_asm); (case zqa => exact rfl); (case zqb => kernel_rfl!); (case zqc => kernel_rfl); (case zqv => first | rfl | assumption); k_whole))
  k_with "ite" => (k_here; first | (k_closed; first | ((with_reducible refine ite_pos ?zqk2 ?_); k_dflt (case zqk2 => decide)) | ((with_reducible refine ite_neg ?zqk2 ?_); k_dflt (case zqk2 => decide))) | (refine' ite_bf ?zqk1 ?_; (case zqk1 => first | assumption | exact decide_eq_false (by omega) | exact beq_eq_false_iff_ne.mpr (by omega))) | (refine' ite_bt ?zqk1 ?_; (case zqk1 => first | assumption | exact decide_eq_true (by omega) | exact beq_iff_eq.mpr (by omega))))
  k_with "call type:dict" => (k_here; (with_reducible show wpAny _ _ (call (Value.type "dict") [Value.ref _]) _ _ _); k_dflt (refine' dict_copyK ?zqF ?zqN ?zqb ?zqm ?zqD ?zql ?zqz ?_; (case zqF => k_asm); (case zqN => k_asm); (case zqb => exact Top.nolimit (by k_asm)); (case zqm => k_mem); (case zqD => with_reducible assumption); (case zql => with_reducible assumption); (case zqz => omega); k_whole); intro d' h' o' F' N' l1 lo' hd'; (try k_lt l1))
  k_with "OWN" => (intro p9 hp9; repeat' (first | exact hp9 | refine List.mem_append.mpr (Or.inr ?_) | refine List.mem_cons_of_mem _ ?_))
  k_with "eval Name" => (k_here; first | ((with_reducible refine' nameO_L ?zqF ?zqv ?_ ?zqa ?zqb ?zqc); k_dflt ((case zqF => k_asm); (case zqa => exact rfl); (case zqb => kernel_rfl!); (case zqc => kernel_rfl); (case zqv => first | rfl | assumption); k_whole)) | ((with_reducible refine' nameO_K ?zqF ?zqX ?zqT ?zqe ?_ ?zqa ?zqb ?zqc); k_dflt ((case zqF => k_asm); (case zqX => k_asm); (case zqT => k_asm); (case zqa => exact rfl); (case zqb => kernel_rfl!); (case zqc => kernel_rfl); (case zqe => k_is); k_whole)) | ((with_reducible refine' nameC_L ?zqF ?zqv ?_ ?zqa ?zqb ?zqc); k_dflt ((case zqF => k_asm); (case zqa => exact rfl); (case zqb => kernel_rfl!); (case zqc => kernel_rfl); (case zqv => first | rfl | assumption); k_whole)) | ((with_reducible refine' nameC_K ?zqF ?zqX ?zqT ?zqe ?_ ?zqa ?zqb ?zqc); k_dflt ((case zqF => k_asm); (case zqX => k_asm); (case zqT => k_asm); (case zqa => exact rfl); (case zqb => kernel_rfl!); (case zqc => kernel_rfl); (case zqe => k_is); k_whole)))
  trivial
theorem exc_msg {w : World} {s : Shared} {e D : Addr} {oe : Obj} {vs : Array Value} {msg : Str} {tk tm : Tok} {E : Value → Shared → Prop} {Q : Value → Shared → Prop} {A : Around} {expr : Bool} (X : (fragK.heap_1 w.params).In s.heap) (he : s.heap.get? e = some oe) (hc : oe.cls = .ref 44) (hdi : oe.dict = some D) (hda : oe.data = .fields vs) (hD : s.heap.get? D = some (msgD w msg tk tm))
    (h : Q (.str msg tm) { s with toks := s.toks + 1 }) : wpAny (model PySem.Challenge.rw_pq1344_01.row.prog w) A (getAttr (.ref e) (Str.ofString "message") expr) Q E s := by
  refine' exc_get (K := fragK.heap_1 w.params) (C := 44) X he hc hdi hda hD ?hga ?hgt ?hh ?ha ?hmr h
  case hga => k_is
  case hgt => k_is
  case hh => k_is
  case ha => k_is
  case hmr => k_is
theorem kwC15_1 : True := by
  k_with "getAttr ref" => (k_here; (with_reducible show wpAny _ _ (getAttr (Value.ref _) (PySem.Str.ofString "message") _) _ _ _); k_dflt (refine' exc_msg ?zqX ?zqhe ?zqhc ?zqhdi ?zqhf ?zqhD ?_; (case zqX => k_in); (case zqhe => exact News.get (by k_asm) (by k_mem)); (case zqhc => assumption); (case zqhdi => assumption); (case zqhf => assumption); (case zqhD => exact News.get (by k_asm) (by k_mem)); k_whole))
  k_with "call ref" => (k_here; (with_reducible show wpAny _ _ (call (Value.ref 779) _) _ _ _); k_dflt (refine' tellsX_call (any_raise ?zqhqs ?zqhi ?zqhDr ?zqhj ?zqhu0 ?zqhw0 ?zqhlen) ?zqkB ?zqkF ?zqkX ?zqkN ?zqkS ?zqkT ?zqkK ?zqkd ?zqku ?_; k_extra "CA"; (case zqhDr => with_reducible assumption); (case zqkS => k_extra "SUK"); (case zqhqs => assumption); (case zqhi => with_reducible assumption); (case zqhj => with_reducible assumption); (case zqhu0 => k_extra "AR"); (case zqhw0 => k_extra "AR"); (case zqhlen => k_extra "AR"); k_extra "CB"; k_whole; intro e' D' tk' tm' h' tk'' R'))
  trivial
theorem tried_raise {w : World} {x d da xd dd ld : Addr} {t1 t2 t3 t4 t5 kt : Tok} {i : Nat} {av sh lo : Value} {n1 li n2 : Nat} {us : List Value} {o ex ed el : Obj} {kvs : List (Str × Value)} {ix dm : Addr} {y1 y2 y3 : Tok} {n9 : Nat} {ql q9 : Nat} {qs : List Value} {j : Nat} {xv dv lv : Addr} {v1 v2 v3 v4 v5 vt : Tok} {vsh vlo : Value} {m1 m2 : Nat} {ws : List Value} (hqs : qs = [] ∨ qs = [.ref ix]) (hi : i < 3) (hDr : Dr w av da o kvs xd dd ld ex ed el) (hj : j < 3) (hu0 : 0 < us.length) (hw0 : ws.length = 0) (hlen : us.length ≤ 600) :
    Tells0 w 16 817 [.ref x, .ref ql, .ref xv] [(ql, listOf qs.toArray q9), (ix, instObj 84 dm), (dm, dictOf [ent w.params (Str.ofString "kind") y1 (.str (Str.ofString "missing") y2), ent w.params (Str.ofString "attrs") y3 .none] n9), (x, instObj 113 d), (d, dictOf (vd w.params t1 t2 t3 t4 t5 (.str (kS i) kt) (.ref li) av sh lo) n1), (da, o), (xd, ex), (dd, ed), (ld, el), (li, listOf us.toArray n2), (xv, instObj 113 dv), (dv, dictOf (vd w.params v1 v2 v3 v4 v5 (.str (kS j) vt) (.ref lv) .none vsh vlo) m1), (lv, listOf ws.toArray m2)] (fun v new => ∃ T nt n0 n9 te, v = .ref T ∧ new = [(T, { cls := .type "tuple", data := .seq #[.none, .str (Str.ofString "replacement has length zero") te, .ref nt] n0 }), (nt, listOf ([] : List Value).toArray n9)] ∧ Apart [(T, { cls := .type "tuple", data := .seq #[.none, .str (Str.ofString "replacement has length zero") te, .ref nt] n0 }), (nt, listOf ([] : List Value).toArray n9)] [(ql, listOf qs.toArray q9), (ix, instObj 84 dm), (dm, dictOf [ent w.params (Str.ofString "kind") y1 (.str (Str.ofString "missing") y2), ent w.params (Str.ofString "attrs") y3 .none] n9), (x, instObj 113 d), (d, dictOf (vd w.params t1 t2 t3 t4 t5 (.str (kS i) kt) (.ref li) av sh lo) n1), (da, o), (xd, ex), (dd, ed), (ld, el), (li, listOf us.toArray n2), (xv, instObj 113 dv), (dv, dictOf (vd w.params v1 v2 v3 v4 v5 (.str (kS j) vt) (.ref lv) .none vsh vlo) m1), (lv, listOf ws.toArray m2)]) := by
  refine wo ?_
  simp (disch :=
  k_dflt (
  refine wk ?_
  refine' tells_catch (binds := [(Str.ofString "v", .ref x), (Str.ofString "indexes", .ref ql), (Str.ofString "value", .ref xv)]) ?k1 ?k2 ?k3 ?k4 ?k5 ?k6 ?k7 ?k8 ?k9 ?_
  case k1 => k_is
  case k2 => k_is
  case k3 => exact fun s => BindsTo.of_eq rfl
  case k4 => exact locs rfl
  case k5 => decide
  case k6 => rfl
  case k7 => rfl
  case k8 => rfl
  case k9 => decide
  intro p loose mean mg mb dp un gd cn cs L a ccd cl base g L' s B F K XB N T TB DK hdp hun
  (try dsimp only)
  repeat' ((fail_if_success (with_reducible show wpAny _ _ (noteFrame _ _) _ _ _)); k_extra "S0"; k_extra "S1")
  (rename RaisedE _ _ _ _ _ _ _ => hRE)
  k_dflt (refine' caughtD (KF := fragK.heap_1 w.params) hRE ?F ?N B XB TB ?ex ?q ?_)
  case F => k_asm
  case N => k_asm
  case ex => k_is
  case q => kts_isx
  intro h9 g9 oe9 vs9 tk9 T9 F9 N9 c1 c2 c3 hDn K9 X9 P9
  repeat' (k_extra "S0"; k_extra "S1")
  ((try dsimp only); exact postS_of _ _ rfl T9 (by k_asm) (by k_asm) (by k_extra "SUB") (by k_extra "SUB") ⟨_, _, _, _, _, rfl, rfl, (by k_extra "APM")⟩)
  )) only [↓wt]
theorem kwC15_2 : True := by
  k_with "call ref" => (k_here; (with_reducible show wpAny _ _ (call (Value.ref 779) _) _ _ _); k_dflt (refine' tellsX_call (any_nullX ?zqhqs ?zqhi ?zqhDr ?zqhu0 ?zqhlen) ?zqkB ?zqkF ?zqkX ?zqkN ?zqkS ?zqkT ?zqkK ?zqkd ?zqku ?_; k_extra "CA"; (case zqhDr => with_reducible assumption); (case zqkS => k_extra "SUK"); (case zqhqs => assumption); (case zqhi => with_reducible assumption); (case zqhu0 => k_extra "AR"); (case zqhlen => k_extra "AR"); k_extra "CB"; k_whole; intro e' D' tk' tm' h' tk'' R'))
  trivial
theorem tried_nullX {w : World} {x d da xd dd ld : Addr} {t1 t2 t3 t4 t5 kt : Tok} {i : Nat} {av sh lo : Value} {n1 li n2 : Nat} {us : List Value} {o ex ed el : Obj} {kvs : List (Str × Value)} {ix dm : Addr} {y1 y2 y3 : Tok} {n9 : Nat} {ql q9 : Nat} {qs : List Value} {xv dv : Addr} {z1 z2 z3 : Tok} {m1 : Nat} (hqs : qs = [] ∨ qs = [.ref ix]) (hi : i < 3) (hDr : Dr w av da o kvs xd dd ld ex ed el) (hu0 : 0 < us.length) (hlen : us.length ≤ 600) :
    Tells0 w 16 817 [.ref x, .ref ql, .ref xv] [(ql, listOf qs.toArray q9), (ix, instObj 84 dm), (dm, dictOf [ent w.params (Str.ofString "kind") y1 (.str (Str.ofString "missing") y2), ent w.params (Str.ofString "attrs") y3 .none] n9), (x, instObj 113 d), (d, dictOf (vd w.params t1 t2 t3 t4 t5 (.str (kS i) kt) (.ref li) av sh lo) n1), (da, o), (xd, ex), (dd, ed), (ld, el), (li, listOf us.toArray n2), (xv, instObj 63 dv), (dv, dictOf [ent w.params (Str.ofString "kind") z1 (.str (Str.ofString "NULL") z2), ent w.params (Str.ofString "attrs") z3 .none] m1)] (fun v new => ∃ T nt n0 n9 te, v = .ref T ∧ new = [(T, { cls := .type "tuple", data := .seq #[.none, .str (Str.ofString "replacement has length zero") te, .ref nt] n0 }), (nt, listOf ([] : List Value).toArray n9)] ∧ Apart [(T, { cls := .type "tuple", data := .seq #[.none, .str (Str.ofString "replacement has length zero") te, .ref nt] n0 }), (nt, listOf ([] : List Value).toArray n9)] [(ql, listOf qs.toArray q9), (ix, instObj 84 dm), (dm, dictOf [ent w.params (Str.ofString "kind") y1 (.str (Str.ofString "missing") y2), ent w.params (Str.ofString "attrs") y3 .none] n9), (x, instObj 113 d), (d, dictOf (vd w.params t1 t2 t3 t4 t5 (.str (kS i) kt) (.ref li) av sh lo) n1), (da, o), (xd, ex), (dd, ed), (ld, el), (li, listOf us.toArray n2), (xv, instObj 63 dv), (dv, dictOf [ent w.params (Str.ofString "kind") z1 (.str (Str.ofString "NULL") z2), ent w.params (Str.ofString "attrs") z3 .none] m1)]) := by
  refine wo ?_
  simp (disch :=
  k_dflt (
  refine wk ?_
  refine' tells_catch (binds := [(Str.ofString "v", .ref x), (Str.ofString "indexes", .ref ql), (Str.ofString "value", .ref xv)]) ?k1 ?k2 ?k3 ?k4 ?k5 ?k6 ?k7 ?k8 ?k9 ?_
  case k1 => k_is
  case k2 => k_is
  case k3 => exact fun s => BindsTo.of_eq rfl
  case k4 => exact locs rfl
  case k5 => decide
  case k6 => rfl
  case k7 => rfl
  case k8 => rfl
  case k9 => decide
  intro p loose mean mg mb dp un gd cn cs L a ccd cl base g L' s B F K XB N T TB DK hdp hun
  (try dsimp only)
  repeat' ((fail_if_success (with_reducible show wpAny _ _ (noteFrame _ _) _ _ _)); k_extra "S0"; k_extra "S1")
  (rename RaisedE _ _ _ _ _ _ _ => hRE)
  k_dflt (refine' caughtD (KF := fragK.heap_1 w.params) hRE ?F ?N B XB TB ?ex ?q ?_)
  case F => k_asm
  case N => k_asm
  case ex => k_is
  case q => kts_isx
  intro h9 g9 oe9 vs9 tk9 T9 F9 N9 c1 c2 c3 hDn K9 X9 P9
  repeat' (k_extra "S0"; k_extra "S1")
  ((try dsimp only); exact postS_of _ _ rfl T9 (by k_asm) (by k_asm) (by k_extra "SUB") (by k_extra "SUB") ⟨_, _, _, _, _, rfl, rfl, (by k_extra "APM")⟩)
  )) only [↓wt]
end
section
open PySem PySem.W PyProof.Rows PySem.Calls
set_option Elab.async false
set_option maxRecDepth 100000 
set_option maxHeartbeats 8000000 
theorem kwC16_0 : True := by
  k_with_none
  k_with "MEM" => first | (with_reducible exact List.mem_cons_self) | ((with_reducible refine List.mem_cons_of_mem _ ?_); k_extra "MEM")
  k_with "ENTER" => (refine' code_defP ?zqk1 ?zqk2 ?zqk3 ?zqk4 ?zqk5 ?zqkA ?zqkF ?zqkK ?zqk6 ?zqk7 ?zqk8 ?zqk9 ?zqkB ?_ ?zqc2 ?zqc3 ?zqc4 ?zqc5; (case zqkA => exact rfl); (case zqkF => exact rfl); (case zqkK => exact rfl); (case zqk1 => k_asm); (case zqk2 => k_asm); (case zqk3 => k_asm); (case zqk4 => k_asm); (case zqk5 => k_asm); (case zqk6 => k_is); (case zqk7 => k_is); (case zqk8 => k_room); (case zqk9 => first | exact BindsTo.of_eq rfl | exact binds_K (by k_in) rfl (by k_is) rfl rfl rfl); (case zqc5 => decide); (case zqkB => exact locs rfl); (case zqc2 => exact rfl); (case zqc3 => exact rfl); (case zqc4 => exact rfl); k_whole; intro g' L' h' Q' FG' F' N' B' X' T' hQ' e9 A9; (try dsimp only); (try k_lift B'); (try k_fold))
  k_with "S0" => ((fail_if_success (with_reducible show Post _ _ _ _ _ _ _ _)); (fail_if_success (with_reducible show LoopP _ _ _ _ _ _ _ _)); (fail_if_success (with_reducible show CmpP _ _ _ _ _ _ _ _ _ _ _ _ _ _ _)))
  k_with "S1" => first | (k_unfold; (try dsimp only)) | (k_end; wrow_close) | walk1 | (with_reducible refine hand (by assumption) ?_; try dsimp only) | (dsimp only; walk1) | (leave1; try dsimp only)
  k_with "ROOM" => first | (refine' room0 ?zqh ?zqe; (case zqh => assumption); (case zqe => exact rfl)) | (refine' room1 ?zqh ?zqe; (case zqh => assumption); (case zqe => exact rfl)) | (refine' room2 ?zqh ?zqe; (case zqh => assumption); (case zqe => exact rfl)) | (refine' room3 ?zqh ?zqe; (case zqh => assumption); (case zqe => exact rfl)) | (refine' roomz ?zqh; (case zqh => assumption)) | ktr_room
  k_with "UNITS" => first | (refine' room0 ?zqh ?zqe; (case zqh => assumption); (case zqe => exact rfl)) | (refine' room1 ?zqh ?zqe; (case zqh => assumption); (case zqe => exact rfl)) | (refine' room2 ?zqh ?zqe; (case zqh => assumption); (case zqe => exact rfl)) | (refine' room3 ?zqh ?zqe; (case zqh => assumption); (case zqe => exact rfl)) | exact lt_num rfl | ktr_units
  k_with "AR" => first | assumption | exact Nat.le_max_right _ _ | exact Nat.le_max_left _ _ | exact Nat.max_lt.mpr ⟨by assumption, by assumption⟩ | (refine' le_up ?zqh ?zqe; (case zqh => assumption); (case zqe => exact rfl)) | omega
  k_with "SUT" => first | exact sub_self | (refine sub_skip ?_; k_extra "SUT")
  k_with "SUB" => first | exact sub_nil | ((with_reducible refine' sub_cons ?zqsm ?_); (case zqsm => k_mem); k_extra "SUB") | k_extra "SUT"
  k_with "SUK" => first | exact sub_nil | k_extra "SUT" | k_extra "SUB"
  k_with "KEEP" => first | (refine keep_hd (List.Mem.head _) ?_; k_extra "KEEP") | exact keep_of (by k_extra "SUK") | ((with_reducible refine' keep_cons ?zqkm ?_); (case zqkm => k_mem); k_extra "KEEP")
  k_with "APQ" => (rename Apart _ _ => h9; first | exact Apart.at h9 (by k_extra "MEM") (by k_extra "MEM") | exact ap_at h9 (by k_extra "MEM") (by k_extra "MEM") | (clear h9; k_extra "APQ"))
  k_with "ANQ" => (rename AllNe _ _ => h9; first | exact AllNe.at h9 (by k_extra "MEM") | exact an_at h9 (by k_extra "MEM") | (clear h9; k_extra "ANQ"))
  k_with "ALQ" => (rename AllLt _ _ => h9; first | exact lt_ne h9 (by k_extra "MEM") | exact lt_en h9 (by k_extra "MEM") | exact lt_ne2 h9 (by assumption) (by k_extra "MEM") | exact lt_en2 h9 (by assumption) (by k_extra "MEM") | (clear h9; k_extra "ALQ"))
  k_with "NEQ" => first | assumption | exact Ne.symm (by assumption) | exact Nat.ne_of_lt (by assumption) | exact Nat.ne_of_gt (by assumption) | k_extra "ALQ" | k_extra "ANQ" | k_extra "APQ" | omega
  k_with "APS" => (rename Apart _ _ => h9; first | exact Apart.subA h9 rfl (by k_extra "SUK") | (clear h9; k_extra "APS"))
  k_with "NE1" => (refine neN ?_; (try dsimp only); k_extra "NEQ")
  k_with "ALL" => first | exact all_nil | (rename AllLt _ _ => h9; exact lt_sub h9 (by k_extra "SUT")) | (refine' all_cons ?zqa ?zqb; (case zqa => k_ne); (case zqb => k_all))
  k_with "ALN" => first | exact ne_nil | (refine ne_cons ?_ ?_; (focus ((try dsimp only); k_extra "NEQ")); k_extra "ALN")
  k_with "APM" => first | exact ap_nil | k_extra "APS" | (refine ap_cons ?_ ?_; (focus k_extra "ALN"); k_extra "APM")
  k_with "CA" => ((case zqkB => k_asm); (case zqkF => k_asm); (case zqkX => k_asm); (case zqkN => k_asm))
  k_with "CB" => ((case zqkT => k_asm); (case zqkK => first | exact rfl | assumption); (case zqkd => k_extra "ROOM"); (case zqku => k_extra "UNITS"))
  k_with "CE" => all_goals ((try ((with_reducible rename News _ _ _ _ => h9); simp only [List.nil_append, List.cons_append] at h9)); (try ((with_reducible rename Apart [] _ => h7); clear h7)); (try dsimp only [Option.getD_some, Option.getD_none]); (try k_sweep); (try k_fold))
  k_with "CZ" => all_goals ((try dsimp only [Option.getD_some, Option.getD_none]); (try k_sweep); (try k_fold))
  k_with "call builtin:len" => (k_here; (with_reducible show wpAny _ _ (call (Value.builtin "len") [Value.ref _]) _ _ _); k_dflt (refine' len_sym ?zqk1 ?zqk2 ?zqk3 ?_; (case zqk1 => k_asm); (case zqk2 => k_mem); (case zqk3 => k_extra "AR"); k_whole))
  k_with "getMethod ref" => (k_here; (with_reducible show wpAny _ _ (getMethod (Value.ref _) (PySem.Str.ofString "get") _) _ _ _); k_dflt (refine' get_method ?zqk1 ?zqk2 ?zqk3 ?_; (case zqk1 => k_asm); (case zqk2 => k_mem); (case zqk3 => with_reducible assumption); k_whole))
  k_with "call builtin:dict.get" => (k_here; (with_reducible show wpAny _ _ (call (Value.builtin "dict.get") [Value.ref _, Value.str _ _]) _ _ _); k_dflt (refine' get_call ?zqk0 ?zqk1 ?zqk2 ?zqk3 ?_; (case zqk1 => k_asm); (case zqk2 => k_mem); (case zqk3 => with_reducible assumption); (case zqk0 => with_reducible assumption); k_whole))
  k_with "LOCA" => first | exact LocArgs.nil | (refine' LocArgs.cons ?zqlk ?zqld ?zqlv ?zqlt; (case zqlk => kernel_rfl!); (case zqld => kernel_rfl); (case zqlv => first | rfl | assumption); (case zqlt => k_extra "LOCA"))
  k_with "eval Call" => (k_here; (with_reducible show wpAny _ _ (eval (Expr.Call (Expr.Name _ _) (Expr.Name _ _ :: _) [] _) _) _ _ _); first | ((with_reducible refine' callO_loc ?zqF ?zqX ?zqT ?zqe ?zqk ?zqa ?zqb ?zqc ?zql ?_); k_dflt ((case zqF => k_asm); (case zqX => k_asm); (case zqT => k_asm); (case zqa => exact rfl); (case zqb => kernel_rfl!); (case zqc => kernel_rfl); (case zqe => k_is); (case zqk => k_is); (case zql => k_extra "LOCA"); k_whole)) | ((with_reducible refine' callC_loc ?zqF ?zqX ?zqT ?zqe ?zqk ?zqa ?zqb ?zqc ?zql ?_); k_dflt ((case zqF => k_asm); (case zqX => k_asm); (case zqT => k_asm); (case zqa => exact rfl); (case zqb => kernel_rfl!); (case zqc => kernel_rfl); (case zqe => k_is); (case zqk => k_is); (case zql => k_extra "LOCA"); k_whole)))
  k_with "eval Attribute Name" => (k_here; (with_reducible refine' attrO_loc ?zqF ?zqv ?zqa ?zqb ?zqc ?_); k_dflt ((case zqF => k_asm); (case zqa => exact rfl); (case zqb => kernel_rfl!); (case zqc => kernel_rfl); (case zqv => first | rfl | assumption); k_whole))
  k_with "ite" => (k_here; first | (k_closed; first | ((with_reducible refine ite_pos ?zqk2 ?_); k_dflt (case zqk2 => decide)) | ((with_reducible refine ite_neg ?zqk2 ?_); k_dflt (case zqk2 => decide))) | (refine' ite_bf ?zqk1 ?_; (case zqk1 => first | assumption | exact decide_eq_false (by omega) | exact beq_eq_false_iff_ne.mpr (by omega))) | (refine' ite_bt ?zqk1 ?_; (case zqk1 => first | assumption | exact decide_eq_true (by omega) | exact beq_iff_eq.mpr (by omega))))
  k_with "call type:dict" => (k_here; (with_reducible show wpAny _ _ (call (Value.type "dict") [Value.ref _]) _ _ _); k_dflt (refine' dict_copyK ?zqF ?zqN ?zqb ?zqm ?zqD ?zql ?zqz ?_; (case zqF => k_asm); (case zqN => k_asm); (case zqb => exact Top.nolimit (by k_asm)); (case zqm => k_mem); (case zqD => with_reducible assumption); (case zql => with_reducible assumption); (case zqz => omega); k_whole); intro d' h' o' F' N' l1 lo' hd'; (try k_lt l1))
  k_with "OWN" => (intro p9 hp9; repeat' (first | exact hp9 | refine List.mem_append.mpr (Or.inr ?_) | refine List.mem_cons_of_mem _ ?_))
  k_with "eval Name" => (k_here; first | ((with_reducible refine' nameO_L ?zqF ?zqv ?_ ?zqa ?zqb ?zqc); k_dflt ((case zqF => k_asm); (case zqa => exact rfl); (case zqb => kernel_rfl!); (case zqc => kernel_rfl); (case zqv => first | rfl | assumption); k_whole)) | ((with_reducible refine' nameO_K ?zqF ?zqX ?zqT ?zqe ?_ ?zqa ?zqb ?zqc); k_dflt ((case zqF => k_asm); (case zqX => k_asm); (case zqT => k_asm); (case zqa => exact rfl); (case zqb => kernel_rfl!); (case zqc => kernel_rfl); (case zqe => k_is); k_whole)) | ((with_reducible refine' nameC_L ?zqF ?zqv ?_ ?zqa ?zqb ?zqc); k_dflt ((case zqF => k_asm); (case zqa => exact rfl); (case zqb => kernel_rfl!); (case zqc => kernel_rfl); (case zqv => first | rfl | assumption); k_whole)) | ((with_reducible refine' nameC_K ?zqF ?zqX ?zqT ?zqe ?_ ?zqa ?zqb ?zqc); k_dflt ((case zqF => k_asm); (case zqX => k_asm); (case zqT => k_asm); (case zqa => exact rfl); (case zqb => kernel_rfl!); (case zqc => kernel_rfl); (case zqe => k_is); k_whole)))
  trivial

section
variable {prog : Program} {w : World} {A : Around} {E : Value → Shared → Prop} {s : Shared} {h₀ : Heap} {L : Addr} {news : List (Addr × Obj)}
/-- an item of the written list of the three kinds -/
theorem pick3 {value slice : Expr} {l : Addr} {n : Nat} {k : Int} {u a b c : Tok} {Q : Value → Shared → Prop} (N : News h₀ L s.heap news) (hm : (l, listOf #[.str (Str.ofString "logical") a, .str (Str.ofString "integer") b, .str (Str.ofString "character") c] n) ∈ news) (h0 : 0 ≤ k) (h1 : k < 3)
    (h : ∀ i t, i < 3 → Q (.str (kS i) t) s) (hs : subscripted slice false (.ref l) (.int k u) = operate [.ref l, .int k u] (getItem (.ref l) (.int k u)) := by with_unfolding_all rfl) :
    wpAny (model prog w) A (subscriptTail value slice (.ref l) (.int k u)) Q E s := by
  refine item_any (us := [.str (Str.ofString "logical") a, .str (Str.ofString "integer") b, .str (Str.ofString "character") c]) (n := n) N hm h0 (by simpa using h1) (by simp) ?_ hs
  obtain rfl | rfl | rfl : k = 0 ∨ k = 1 ∨ k = 2 := by omega
  · exact h 0 a (by decide)
  · exact h 1 b (by decide)
  · exact h 2 c (by decide)
end
theorem kwC16_1 : True := by
  k_with "call ref" => (k_here; (with_reducible show wpAny _ _ (call (Value.ref 793) _) _ _ _); k_dflt (refine' tells_callGU (card2_tells _ ?zqhI ?zqhlen ?zqhk0 ?zqhk1) ?zqkB ?zqkF ?zqkX ?zqkN ?zqkS ?zqkU ?zqkT ?zqkK ?zqkd ?zqku ?_; k_extra "CA"; (case zqhI => with_reducible assumption); (case zqkS => k_extra "SUK"); (case zqkU => k_updF); (case zqhlen => k_extra "AR"); (case zqhk0 => k_extra "AR"); (case zqhk1 => k_extra "AR"); k_extra "CB"; k_whole; intro r9Z t9Z u9Z n9Z m9Z hr0Z hr1Z hulZ hI9Z h' tk' F' N' A'; (try dsimp only at N'); k_extra "CE"))
  k_with "subscriptTail" => (k_here; (with_reducible show wpAny _ _ (subscriptTail _ _ (Value.ref _) (Value.int _ _)) _ _ _); k_dflt (refine' pick3 ?zqk1 ?zqk2 ?zqk3 ?zqk4 ?_ ?zqk6; (case zqk1 => k_asm); (case zqk2 => k_mem); (case zqk3 => omega); (case zqk4 => omega); (case zqk6 => with_unfolding_all rfl); k_whole); intro i9 t9 hi9)
  trivial
theorem okv0 {i : Nat} (h : i = 0) (r : Int) (t : Tok) : Okv i (.int (Int.fmod r 2) t) := by
  subst h
  have h0 := fmod_lo r (n := 2) (by decide)
  have h1 := fmod_hi r (n := 2) (by decide)
  exact .inl ⟨rfl, by omega⟩
theorem okv1 {i : Nat} (h : i = 1) {r : Int} (t : Tok) (h0 : 0 ≤ r) (h1 : r < 9) : Okv i (.int (r - 3) t) := .inr ⟨h, by omega, by omega⟩
theorem okv2 {i : Nat} (h : i = 2) {x : Str} {t : Tok} : Okv i (.str x t) := h
theorem okv_app {i : Nat} {es : List Value} {v : Value} (h : ∀ u ∈ es, Okv i u) (hv : Okv i v) : ∀ u ∈ es ++ [v], Okv i u := fun u hu => (List.mem_append.mp hu).elim (h u) fun q => by rw [List.mem_singleton.mp q]; exact hv

theorem row_tells (w : World) {c : Addr} {us : List Value} {ns : List Int} {n : Nat} {k : Int} {t : Tok} (hI : IntsAre us ns) (hlen : us.length ≤ 600) (hk0 : 0 < k) (hk1 : k < 100) :
    Tells w 3 800 [.ref c, .int k t] [(c, listOf us.toArray n)] [c] (GivesU c [(c, listOf us.toArray n)] fun P => ∀ T el i ne n0 n', ∀ es us' : List Value, ∀ ns' t', us'.length ≤ 600 → IntsAre us' ns' → i < 3 → (es.length : Int) < k → (∀ u ∈ es, Okv i u) → @Ne Nat T el → P (.ref T) (listOf us'.toArray n') [(T, { cls := .type "tuple", data := .seq #[.str (kS i) t', .ref el] n0 }), (el, listOf es.toArray ne)]) := by
  refine wo ?_
  simp (disch :=
  k_dflt (
  refine wk ?_
  refine' tells_plainP (binds := [(Str.ofString "cards", .ref c), (Str.ofString "many", .int k t)]) ?k1 ?k2 ?k3 ?k4 ?k5 ?k6 ?k7 ?k8 ?k9 ?_
  case k1 => k_is
  case k2 => k_is
  case k3 => exact fun s => BindsTo.of_eq rfl
  case k4 => exact locs rfl
  case k5 => decide
  case k6 => rfl
  case k7 => rfl
  case k8 => rfl
  case k9 => decide
  intro p loose mean mg mb dp un gd cn cs L a ccd cl outer base g L' s Pq B F K N T hdp hun hPq e9 A9
  (try dsimp only)
  repeat' ((fail_if_success (with_reducible show wpAny _ _ (pyIter (Value.ref _)) _ _ _)); k_extra "S0"; k_extra "S1")
  refine' loop_range (n := _) [_, (c, _)] (fun j m nx => m (Str.ofString "cards") = some (.ref c) ∧ ∃ l i ts n' m', ∃ es us : List Value, ∃ ns, m (Str.ofString "entries") = some (.ref l) ∧ i < 3 ∧ m (Str.ofString "sort_of") = some (.str (kS i) ts) ∧ es.length = j ∧ (∀ u ∈ es, Okv i u) ∧ IntsAre us ns ∧ us.length ≤ 600 ∧ @Ne Nat l c ∧ nx = [(l, listOf es.toArray n'), (c, listOf us.toArray m')]) ?hh ?hr ?hs ?hz ?F ?N ?s ?j ?turn ?done
  case hh => rfl
  case hr => assumption
  case hs => exact rng_small (by omega) (by omega)
  case hz => exact rng_size' (by omega)
  case F => k_asm
  case N => k_asm
  case s => k_extra "SUB"
  case j => exact ⟨rfl, _, _, _, _, _, [], _, _, rfl, by assumption, rfl, rfl, (fun u hu => nomatch hu), by assumption, by assumption, by k_extra "NEQ", rfl⟩
  case turn =>
    intro j t m₁ nx h tk own hj ho hJ F₁ N₁
    obtain ⟨hm1, l, i, ts, n', m', es, us1, ns1, hm2, hi, hm3, hel, hes, hI1, hul1, hlc, rfl⟩ := hJ
    repeat' ((fail_if_success (with_reducible show wpAny _ _ (subscriptTail _ _ (Value.ref _) (Value.str _ _)) _ _ _)); k_extra "S0"; k_extra "S1")
    · refine (three hi).elim (fun i0 => ?_) (fun i9 => i9.elim (fun i0 => ?_) (fun i0 => ?_))
      all_goals (k_dflt (refine kba_turn (value' := PySem.Expr.Name (PySem.Str.ofString "_") ⟨0, 0, 0, 0⟩) (fun _ => rfl) ?_))
      all_goals (k_dflt (refine kda_item (knd := PySem.strKind _ _) (by k_asm) (by k_mem) (by k_asm) (strKind_is _ _ _ _) (by rw [i0]; rfl) ?_))
      all_goals (repeat' (k_extra "S0"; k_extra "S1"))
      all_goals ((try dsimp only); (rename News _ _ _ _ => N9); (simp only [List.push_toArray] at N9); ((try dsimp only); refine' loopP_next (nx := [(l, _), (c, _)]) ?e ?F ?N ?J ?A ?q1 ?q2; (case e => first | exact .inl rfl | exact .inr rfl); (case F => k_asm); (case N => k_asm); (case q1 => k_extra "SUB"); (case J => exact ⟨hm1, l, _, ts, _, _, es ++ [_], _, _, hm2, hi, hm3, (by rw [List.length_append, hel]; rfl), okv_app hes (by first | exact okv0 i0 _ _ | exact okv1 i0 _ (by assumption) (by assumption) | exact okv2 i0 | exact True.intro), (by assumption), (by assumption), hlc, rfl⟩); (case A => exact ho); (case q2 => k_extra "OWN")))
    · (try dsimp only); (rename News _ _ _ _ => N9); (simp only [List.push_toArray] at N9); ((try dsimp only); refine' loopP_next (nx := [(l, _), (c, _)]) ?e ?F ?N ?J ?A ?q1 ?q2; (case e => first | exact .inl rfl | exact .inr rfl); (case F => k_asm); (case N => k_asm); (case q1 => k_extra "SUB"); (case J => exact ⟨hm1, l, _, ts, _, _, es ++ [_], _, _, hm2, hi, hm3, (by rw [List.length_append, hel]; rfl), okv_app hes (by first | exact okv0 i0 _ _ | exact okv1 i0 _ (by assumption) (by assumption) | exact okv2 i0 | exact True.intro), (by assumption), (by assumption), hlc, rfl⟩); (case A => exact ho); (case q2 => k_extra "OWN"))
  case done =>
    intro m₁ nx h tk hJ F₁ N₁
    obtain ⟨hm1, l, i, ts, n', m', es, us1, ns1, hm2, hi, hm3, hel, hes, hI1, hul1, hlc, rfl⟩ := hJ
    repeat' (k_extra "S0"; k_extra "S1")
    ((try dsimp only); exact post_of _ _ rfl (by k_asm) (by k_asm) (by k_extra "SUB") (by k_extra "KEEP") (⟨_, _, rfl, (by k_extra "APM"), fun P hP => hP _ _ _ _ _ _ _ _ _ _ hul1 hI1 hi (by omega) hes (by k_extra "NEQ")⟩))
  )) only [↓wt]
end
section
open PySem PySem.W PyProof.Rows PySem.Calls
set_option Elab.async false
set_option maxRecDepth 100000 
set_option maxHeartbeats 8000000 
theorem kwC17_0 : True := by
  k_with_none
  k_with "MEM" => first | (with_reducible exact List.mem_cons_self) | ((with_reducible refine List.mem_cons_of_mem _ ?_); k_extra "MEM")
  k_with "ENTER" => (refine' code_defP ?zqk1 ?zqk2 ?zqk3 ?zqk4 ?zqk5 ?zqkA ?zqkF ?zqkK ?zqk6 ?zqk7 ?zqk8 ?zqk9 ?zqkB ?_ ?zqc2 ?zqc3 ?zqc4 ?zqc5; (case zqkA => exact rfl); (case zqkF => exact rfl); (case zqkK => exact rfl); (case zqk1 => k_asm); (case zqk2 => k_asm); (case zqk3 => k_asm); (case zqk4 => k_asm); (case zqk5 => k_asm); (case zqk6 => k_is); (case zqk7 => k_is); (case zqk8 => k_room); (case zqk9 => first | exact BindsTo.of_eq rfl | exact binds_K (by k_in) rfl (by k_is) rfl rfl rfl); (case zqc5 => decide); (case zqkB => exact locs rfl); (case zqc2 => exact rfl); (case zqc3 => exact rfl); (case zqc4 => exact rfl); k_whole; intro g' L' h' Q' FG' F' N' B' X' T' hQ' e9 A9; (try dsimp only); (try k_lift B'); (try k_fold))
  k_with "S0" => ((fail_if_success (with_reducible show Post _ _ _ _ _ _ _ _)); (fail_if_success (with_reducible show LoopP _ _ _ _ _ _ _ _)); (fail_if_success (with_reducible show CmpP _ _ _ _ _ _ _ _ _ _ _ _ _ _ _)))
  k_with "S1" => first | (k_unfold; (try dsimp only)) | (k_end; wrow_close) | walk1 | (with_reducible refine hand (by assumption) ?_; try dsimp only) | (dsimp only; walk1) | (leave1; try dsimp only)
  k_with "ROOM" => first | (refine' room0 ?zqh ?zqe; (case zqh => assumption); (case zqe => exact rfl)) | (refine' room1 ?zqh ?zqe; (case zqh => assumption); (case zqe => exact rfl)) | (refine' room2 ?zqh ?zqe; (case zqh => assumption); (case zqe => exact rfl)) | (refine' room3 ?zqh ?zqe; (case zqh => assumption); (case zqe => exact rfl)) | (refine' roomz ?zqh; (case zqh => assumption)) | ktr_room
  k_with "UNITS" => first | (refine' room0 ?zqh ?zqe; (case zqh => assumption); (case zqe => exact rfl)) | (refine' room1 ?zqh ?zqe; (case zqh => assumption); (case zqe => exact rfl)) | (refine' room2 ?zqh ?zqe; (case zqh => assumption); (case zqe => exact rfl)) | (refine' room3 ?zqh ?zqe; (case zqh => assumption); (case zqe => exact rfl)) | exact lt_num rfl | ktr_units
  k_with "AR" => first | assumption | exact Nat.le_max_right _ _ | exact Nat.le_max_left _ _ | exact Nat.max_lt.mpr ⟨by assumption, by assumption⟩ | (refine' le_up ?zqh ?zqe; (case zqh => assumption); (case zqe => exact rfl)) | omega
  k_with "SUT" => first | exact sub_self | (refine sub_skip ?_; k_extra "SUT")
  k_with "SUB" => first | exact sub_nil | ((with_reducible refine' sub_cons ?zqsm ?_); (case zqsm => k_mem); k_extra "SUB") | k_extra "SUT"
  k_with "SUK" => first | exact sub_nil | k_extra "SUT" | k_extra "SUB"
  k_with "KEEP" => first | (refine keep_hd (List.Mem.head _) ?_; k_extra "KEEP") | exact keep_of (by k_extra "SUK") | ((with_reducible refine' keep_cons ?zqkm ?_); (case zqkm => k_mem); k_extra "KEEP")
  k_with "APQ" => (rename Apart _ _ => h9; first | exact Apart.at h9 (by k_extra "MEM") (by k_extra "MEM") | exact ap_at h9 (by k_extra "MEM") (by k_extra "MEM") | (clear h9; k_extra "APQ"))
  k_with "ANQ" => (rename AllNe _ _ => h9; first | exact AllNe.at h9 (by k_extra "MEM") | exact an_at h9 (by k_extra "MEM") | (clear h9; k_extra "ANQ"))
  k_with "ALQ" => (rename AllLt _ _ => h9; first | exact lt_ne h9 (by k_extra "MEM") | exact lt_en h9 (by k_extra "MEM") | exact lt_ne2 h9 (by assumption) (by k_extra "MEM") | exact lt_en2 h9 (by assumption) (by k_extra "MEM") | (clear h9; k_extra "ALQ"))
  k_with "NEQ" => first | assumption | exact Ne.symm (by assumption) | exact Nat.ne_of_lt (by assumption) | exact Nat.ne_of_gt (by assumption) | k_extra "ALQ" | k_extra "ANQ" | k_extra "APQ" | omega
  k_with "APS" => (rename Apart _ _ => h9; first | exact Apart.subA h9 rfl (by k_extra "SUK") | (clear h9; k_extra "APS"))
  k_with "NE1" => (refine neN ?_; (try dsimp only); k_extra "NEQ")
  k_with "ALL" => first | exact all_nil | (rename AllLt _ _ => h9; exact lt_sub h9 (by k_extra "SUT")) | (refine' all_cons ?zqa ?zqb; (case zqa => k_ne); (case zqb => k_all))
  k_with "ALN" => first | exact ne_nil | (refine ne_cons ?_ ?_; (focus ((try dsimp only); k_extra "NEQ")); k_extra "ALN")
  k_with "APM" => first | exact ap_nil | k_extra "APS" | (refine ap_cons ?_ ?_; (focus k_extra "ALN"); k_extra "APM")
  k_with "CA" => ((case zqkB => k_asm); (case zqkF => k_asm); (case zqkX => k_asm); (case zqkN => k_asm))
  k_with "CB" => ((case zqkT => k_asm); (case zqkK => first | exact rfl | assumption); (case zqkd => k_extra "ROOM"); (case zqku => k_extra "UNITS"))
  k_with "CE" => all_goals ((try ((with_reducible rename News _ _ _ _ => h9); simp only [List.nil_append, List.cons_append] at h9)); (try ((with_reducible rename Apart [] _ => h7); clear h7)); (try dsimp only [Option.getD_some, Option.getD_none]); (try k_sweep); (try k_fold))
  k_with "CZ" => all_goals ((try dsimp only [Option.getD_some, Option.getD_none]); (try k_sweep); (try k_fold))
  k_with "call builtin:len" => (k_here; (with_reducible show wpAny _ _ (call (Value.builtin "len") [Value.ref _]) _ _ _); k_dflt (refine' len_sym ?zqk1 ?zqk2 ?zqk3 ?_; (case zqk1 => k_asm); (case zqk2 => k_mem); (case zqk3 => k_extra "AR"); k_whole))
  k_with "getMethod ref" => (k_here; (with_reducible show wpAny _ _ (getMethod (Value.ref _) (PySem.Str.ofString "get") _) _ _ _); k_dflt (refine' get_method ?zqk1 ?zqk2 ?zqk3 ?_; (case zqk1 => k_asm); (case zqk2 => k_mem); (case zqk3 => with_reducible assumption); k_whole))
  k_with "call builtin:dict.get" => (k_here; (with_reducible show wpAny _ _ (call (Value.builtin "dict.get") [Value.ref _, Value.str _ _]) _ _ _); k_dflt (refine' get_call ?zqk0 ?zqk1 ?zqk2 ?zqk3 ?_; (case zqk1 => k_asm); (case zqk2 => k_mem); (case zqk3 => with_reducible assumption); (case zqk0 => with_reducible assumption); k_whole))
  k_with "LOCA" => first | exact LocArgs.nil | (refine' LocArgs.cons ?zqlk ?zqld ?zqlv ?zqlt; (case zqlk => kernel_rfl!); (case zqld => kernel_rfl); (case zqlv => first | rfl | assumption); (case zqlt => k_extra "LOCA"))
  k_with "eval Call" => (k_here; (with_reducible show wpAny _ _ (eval (Expr.Call (Expr.Name _ _) (Expr.Name _ _ :: _) [] _) _) _ _ _); first | ((with_reducible refine' callO_loc ?zqF ?zqX ?zqT ?zqe ?zqk ?zqa ?zqb ?zqc ?zql ?_); k_dflt ((case zqF => k_asm); (case zqX => k_asm); (case zqT => k_asm); (case zqa => exact rfl); (case zqb => kernel_rfl!); (case zqc => kernel_rfl); (case zqe => k_is); (case zqk => k_is); (case zql => k_extra "LOCA"); k_whole)) | ((with_reducible refine' callC_loc ?zqF ?zqX ?zqT ?zqe ?zqk ?zqa ?zqb ?zqc ?zql ?_); k_dflt ((case zqF => k_asm); (case zqX => k_asm); (case zqT => k_asm); (case zqa => exact rfl); (case zqb => kernel_rfl!); (case zqc => kernel_rfl); (case zqe => k_is); (case zqk => k_is); (case zql => k_extra "LOCA"); k_whole)))
  k_with "eval Attribute Name" => (k_here; (with_reducible refine' attrO_loc ?zqF ?zqv ?zqa ?zqb ?zqc ?_); k_dflt ((case zqF => k_asm); (case zqa => exact rfl); (case zqb => kernel_rfl!); (case zqc => kernel_rfl); (case zqv => first | rfl | assumption); k_whole))
  k_with "ite" => (k_here; first | (k_closed; first | ((with_reducible refine ite_pos ?zqk2 ?_); k_dflt (case zqk2 => decide)) | ((with_reducible refine ite_neg ?zqk2 ?_); k_dflt (case zqk2 => decide))) | (refine' ite_bf ?zqk1 ?_; (case zqk1 => first | assumption | exact decide_eq_false (by omega) | exact beq_eq_false_iff_ne.mpr (by omega))) | (refine' ite_bt ?zqk1 ?_; (case zqk1 => first | assumption | exact decide_eq_true (by omega) | exact beq_iff_eq.mpr (by omega))))
  k_with "call type:dict" => (k_here; (with_reducible show wpAny _ _ (call (Value.type "dict") [Value.ref _]) _ _ _); k_dflt (refine' dict_copyK ?zqF ?zqN ?zqb ?zqm ?zqD ?zql ?zqz ?_; (case zqF => k_asm); (case zqN => k_asm); (case zqb => exact Top.nolimit (by k_asm)); (case zqm => k_mem); (case zqD => with_reducible assumption); (case zql => with_reducible assumption); (case zqz => omega); k_whole); intro d' h' o' F' N' l1 lo' hd'; (try k_lt l1))
  k_with "OWN" => (intro p9 hp9; repeat' (first | exact hp9 | refine List.mem_append.mpr (Or.inr ?_) | refine List.mem_cons_of_mem _ ?_))
  k_with "eval Name" => (k_here; first | ((with_reducible refine' nameO_L ?zqF ?zqv ?_ ?zqa ?zqb ?zqc); k_dflt ((case zqF => k_asm); (case zqa => exact rfl); (case zqb => kernel_rfl!); (case zqc => kernel_rfl); (case zqv => first | rfl | assumption); k_whole)) | ((with_reducible refine' nameO_K ?zqF ?zqX ?zqT ?zqe ?_ ?zqa ?zqb ?zqc); k_dflt ((case zqF => k_asm); (case zqX => k_asm); (case zqT => k_asm); (case zqa => exact rfl); (case zqb => kernel_rfl!); (case zqc => kernel_rfl); (case zqe => k_is); k_whole)) | ((with_reducible refine' nameC_L ?zqF ?zqv ?_ ?zqa ?zqb ?zqc); k_dflt ((case zqF => k_asm); (case zqa => exact rfl); (case zqb => kernel_rfl!); (case zqc => kernel_rfl); (case zqv => first | rfl | assumption); k_whole)) | ((with_reducible refine' nameC_K ?zqF ?zqX ?zqT ?zqe ?_ ?zqa ?zqb ?zqc); k_dflt ((case zqF => k_asm); (case zqX => k_asm); (case zqT => k_asm); (case zqa => exact rfl); (case zqb => kernel_rfl!); (case zqc => kernel_rfl); (case zqe => k_is); k_whole)))
  trivial
theorem Rz.up {j k : Nat} {us : List Value} (h : ∀ u ∈ us, Okv j u) (hjk : j ≤ k) (hk : k < 3) (hc : k < 2 ∨ j = 2) : Rz j k us us := by
  refine wo ?_
  simp (disch :=
  k_dflt (
  refine wk ?_
  refine ⟨rfl, fun q hq => ?_⟩
  have hm : us.getD q .none ∈ us := List.mem_of_getElem? (getD_some hq)
  have ho := h _ hm
  generalize us.getD q .none = u at ho
  have hj2 : k = 2 → j = 2 := by omega
  have hj3 : j = 2 → k = 2 := by omega
  rcases ho.cases with rfl | ⟨h0, t, rfl⟩ | ⟨h0, t, rfl⟩ | ⟨h0, z, t, rfl, h1, h2⟩ | ⟨h0, s, t, rfl⟩
  · exact ⟨True.intro, rfl⟩
  · refine ⟨?_, by simp [rzd, dat]; omega⟩
    rcases Nat.lt_or_ge k 1 with h | h
    · exact .inl ⟨by omega, .inl rfl⟩
    · exact .inr ⟨by omega, by decide, by decide⟩
  · refine ⟨?_, by simp [rzd, dat]; omega⟩
    rcases Nat.lt_or_ge k 1 with h | h
    · exact .inl ⟨by omega, .inr rfl⟩
    · exact .inr ⟨by omega, by decide, by decide⟩
  · exact ⟨.inr ⟨by omega, h1, h2⟩, by simp [rzd, dat]; omega⟩
  · exact ⟨hj3 h0, rfl⟩
  )) only [↓wt]
theorem lr_tells {w : World} {j k el ne : Nat} {t1 t2 : Tok} {es : List Value} (hj : j < 3) (hjk : j ≤ k) (hk : k < 3) (hes : ∀ u ∈ es, Okv j u) (hlen : es.length ≤ 600) :
    Tells w 2 805 [.str (kS j) t1, .ref el, .str (kS k) t2] [(el, listOf es.toArray ne)] [] (Gives [(el, listOf es.toArray ne)] fun P => ∀ l n', ∀ us' : List Value, Rz j k es us' → P (.ref l) [(l, listOf us'.toArray n')]) := by
  refine wo ?_
  simp (disch :=
  k_dflt (
  refine wk ?_
  rcases Nat.lt_or_ge k 2 with hk2 | hk2
  · have hne : (kS k != Str.ofString "character") = true := by rcases three hk with rfl | rfl | rfl <;> first | decide | omega
    refine' tells_plainP (binds := [(Str.ofString "sort_of", .str (kS j) t1), (Str.ofString "entries", .ref el), (Str.ofString "wanted", .str (kS k) t2)]) ?k1 ?k2 ?k3 ?k4 ?k5 ?k6 ?k7 ?k8 ?k9 ?_
    case k1 => k_is
    case k2 => k_is
    case k3 => exact fun s => BindsTo.of_eq rfl
    case k4 => exact locs rfl
    case k5 => decide
    case k6 => rfl
    case k7 => rfl
    case k8 => rfl
    case k9 => decide
    intro p loose mean mg mb dp un gd cn cs L a ccd cl outer base g L' s Pq B F K N T hdp hun hPq e9 A9
    (try dsimp only)
    repeat' (k_extra "S0"; k_extra "S1")
    ((try dsimp only); exact post_of _ _ rfl (by k_asm) (by k_asm) (by k_extra "SUB") (by k_extra "KEEP") (⟨(by k_extra "APM"), fun P hP => hP _ _ _ (Rz.up hes hjk hk (.inl hk2))⟩))
  · obtain rfl : k = 2 := by omega
    have hkc : (kS 2 != Str.ofString "character") = false := rfl
    rcases three hj with rfl | rfl | rfl
    · refine' tells_plainP (binds := [(Str.ofString "sort_of", .str (kS 0) t1), (Str.ofString "entries", .ref el), (Str.ofString "wanted", .str (kS 2) t2)]) ?k1 ?k2 ?k3 ?k4 ?k5 ?k6 ?k7 ?k8 ?k9 ?_
      case k1 => k_is
      case k2 => k_is
      case k3 => exact fun s => BindsTo.of_eq rfl
      case k4 => exact locs rfl
      case k5 => decide
      case k6 => rfl
      case k7 => rfl
      case k8 => rfl
      case k9 => decide
      intro p loose mean mg mb dp un gd cn cs L a ccd cl outer base g L' s Pq B F K N T hdp hun hPq e9 A9
      (try dsimp only)
      repeat' ((fail_if_success (with_reducible show wpAny _ _ (eval (Expr.ListComp _ _ _ _) _) _ _ _)); k_extra "S0"; k_extra "S1")
      k_dflt (refine LCg.ListComp_U (F₀ := by k_asm) (by with_unfolding_all rfl) (by decide) (by rfl) (by decide) (by rfl) ?_)
      repeat' ((fail_if_success (with_reducible show LCg.CompSrc _ _ _ _ _ _ _ _ _ _ _ _ _ _)); k_extra "S0"; k_extra "S1")
      refine LCg.CompSrc.ledger (by rfl) (by k_asm) (by k_asm) (by k_mem) (by rw [List.size_toArray, sizeLine_eq]; omega) ?_
      intro g9
      refine cmp_rest (fun q v => Okv 2 v ∧ dat v = rzd 0 2 (dat (es.getD q .none))) ?turn ?fin
      case turn =>
        intro q v I oI C oC D m₂ ys h tk E' hq hv hC hx F₁ N₁ off ne
        have hv1 : es.getD q .none = v := by
          have hv2 : es[q]? = some v := by simpa using hv
          simp [hv2]
        have hu : Okv 0 v := hes v (List.mem_of_getElem? (by simpa using hv))
        rw [hv1]
        rcases hu.cases with rfl | ⟨h0, t9, rfl⟩ | ⟨h0, t9, rfl⟩ | ⟨h0, z, t9, rfl, h1, h2⟩ | ⟨h0, x9, t9, rfl⟩
        · repeat' (k_extra "S0"; k_extra "S1")
          ((try dsimp only); refine' cmpP_of ?F ?N ?q1 ?q2 ?q3 ?q4; (case F => k_asm); (case N => k_asm); (case q1 => k_extra "SUB"); (case q2 => assumption); (case q3 => exact .inr ⟨_, by k_mem, rfl, _, rfl⟩); (case q4 => exact ⟨True.intro, rfl⟩))
        · repeat' (k_extra "S0"; k_extra "S1")
          ((try dsimp only); refine' cmpP_of ?F ?N ?q1 ?q2 ?q3 ?q4; (case F => k_asm); (case N => k_asm); (case q1 => k_extra "SUB"); (case q2 => assumption); (case q3 => exact .inr ⟨_, by k_mem, rfl, _, rfl⟩); (case q4 => exact ⟨rfl, rfl⟩))
        · repeat' (k_extra "S0"; k_extra "S1")
          ((try dsimp only); refine' cmpP_of ?F ?N ?q1 ?q2 ?q3 ?q4; (case F => k_asm); (case N => k_asm); (case q1 => k_extra "SUB"); (case q2 => assumption); (case q3 => exact .inr ⟨_, by k_mem, rfl, _, rfl⟩); (case q4 => exact ⟨rfl, rfl⟩))
        · exact absurd h0 (by decide)
        · exact absurd h0 (by decide)
      case fin =>
        intro ys hys hG D h tk F₁ N₁ off
        have hRz : Rz 0 2 es ys := ⟨by simpa using hys, fun k hk => hG k (by simpa using hk)⟩
        repeat' (k_extra "S0"; k_extra "S1")
        (simp only [LCg.Off1, and_true] at off)
        have hA : Apart [(D, LCg.lst ys)] [(el, listOf es.toArray ne)] := ⟨⟨off, True.intro⟩, True.intro⟩
        ((try dsimp only); exact post_of _ _ rfl (by k_asm) (by k_asm) (by k_extra "SUB") (by k_extra "KEEP") (⟨hA, fun P hP => hP _ _ _ hRz⟩))
    · refine' tells_plainP (binds := [(Str.ofString "sort_of", .str (kS 1) t1), (Str.ofString "entries", .ref el), (Str.ofString "wanted", .str (kS 2) t2)]) ?k1 ?k2 ?k3 ?k4 ?k5 ?k6 ?k7 ?k8 ?k9 ?_
      case k1 => k_is
      case k2 => k_is
      case k3 => exact fun s => BindsTo.of_eq rfl
      case k4 => exact locs rfl
      case k5 => decide
      case k6 => rfl
      case k7 => rfl
      case k8 => rfl
      case k9 => decide
      intro p loose mean mg mb dp un gd cn cs L a ccd cl outer base g L' s Pq B F K N T hdp hun hPq e9 A9
      (try dsimp only)
      repeat' ((fail_if_success (with_reducible show wpAny _ _ (eval (Expr.ListComp _ _ _ _) _) _ _ _)); k_extra "S0"; k_extra "S1")
      k_dflt (refine LCg.ListComp_U (F₀ := by k_asm) (by with_unfolding_all rfl) (by decide) (by rfl) (by decide) (by rfl) ?_)
      repeat' ((fail_if_success (with_reducible show LCg.CompSrc _ _ _ _ _ _ _ _ _ _ _ _ _ _)); k_extra "S0"; k_extra "S1")
      refine LCg.CompSrc.ledger (by rfl) (by k_asm) (by k_asm) (by k_mem) (by rw [List.size_toArray, sizeLine_eq]; omega) ?_
      intro g9
      refine cmp_rest (fun q v => Okv 2 v ∧ dat v = rzd 1 2 (dat (es.getD q .none))) ?turn ?fin
      case turn =>
        intro q v I oI C oC D m₂ ys h tk E' hq hv hC hx F₁ N₁ off ne
        have hv1 : es.getD q .none = v := by
          have hv2 : es[q]? = some v := by simpa using hv
          simp [hv2]
        have hu : Okv 1 v := hes v (List.mem_of_getElem? (by simpa using hv))
        rw [hv1]
        rcases hu.cases with rfl | ⟨h0, t9, rfl⟩ | ⟨h0, t9, rfl⟩ | ⟨h0, z, t9, rfl, h1, h2⟩ | ⟨h0, x9, t9, rfl⟩
        · repeat' (k_extra "S0"; k_extra "S1")
          ((try dsimp only); refine' cmpP_of ?F ?N ?q1 ?q2 ?q3 ?q4; (case F => k_asm); (case N => k_asm); (case q1 => k_extra "SUB"); (case q2 => assumption); (case q3 => exact .inr ⟨_, by k_mem, rfl, _, rfl⟩); (case q4 => exact ⟨True.intro, rfl⟩))
        · exact absurd h0 (by decide)
        · exact absurd h0 (by decide)
        · repeat' (k_extra "S0"; k_extra "S1")
          ((try dsimp only); refine' cmpP_of ?F ?N ?q1 ?q2 ?q3 ?q4; (case F => k_asm); (case N => k_asm); (case q1 => k_extra "SUB"); (case q2 => assumption); (case q3 => exact .inr ⟨_, by k_mem, rfl, _, rfl⟩); (case q4 => exact ⟨rfl, rfl⟩))
        · exact absurd h0 (by decide)
      case fin =>
        intro ys hys hG D h tk F₁ N₁ off
        have hRz : Rz 1 2 es ys := ⟨by simpa using hys, fun k hk => hG k (by simpa using hk)⟩
        repeat' (k_extra "S0"; k_extra "S1")
        (simp only [LCg.Off1, and_true] at off)
        have hA : Apart [(D, LCg.lst ys)] [(el, listOf es.toArray ne)] := ⟨⟨off, True.intro⟩, True.intro⟩
        ((try dsimp only); exact post_of _ _ rfl (by k_asm) (by k_asm) (by k_extra "SUB") (by k_extra "KEEP") (⟨hA, fun P hP => hP _ _ _ hRz⟩))
    · refine' tells_plainP (binds := [(Str.ofString "sort_of", .str (kS 2) t1), (Str.ofString "entries", .ref el), (Str.ofString "wanted", .str (kS 2) t2)]) ?k1 ?k2 ?k3 ?k4 ?k5 ?k6 ?k7 ?k8 ?k9 ?_
      case k1 => k_is
      case k2 => k_is
      case k3 => exact fun s => BindsTo.of_eq rfl
      case k4 => exact locs rfl
      case k5 => decide
      case k6 => rfl
      case k7 => rfl
      case k8 => rfl
      case k9 => decide
      intro p loose mean mg mb dp un gd cn cs L a ccd cl outer base g L' s Pq B F K N T hdp hun hPq e9 A9
      (try dsimp only)
      repeat' (k_extra "S0"; k_extra "S1")
      ((try dsimp only); exact post_of _ _ rfl (by k_asm) (by k_asm) (by k_extra "SUB") (by k_extra "KEEP") (⟨(by k_extra "APM"), fun P hP => hP _ _ _ (Rz.up hes hjk hk (.inr rfl))⟩))
  )) only [↓wt]
end
section
open PySem PySem.W PyProof.Rows PySem.Calls PySem.Spec
set_option maxRecDepth 100000
section
variable {prog : Program} {w : World} {K : Type} [DecidableEq K] {knd : KeyKind prog w K} {A : Around} {R : Result → Shared → Prop} {s : Shared}
/-- the turns of a dict comprehension without tests, over what is handed on from turn to turn -/
theorem dcomp_loop {kx vx iter : Expr} {x : Str} {px : Pos} {scope : Scope} {pos : Pos} {I D : Addr} {fp wr : List Addr} {n : Nat} {P : Nat → Value → Prop} {St : Nat → Heap → Prop}
    {cenv : Env} {m : Str → Option Value} (W : Walks prog w A I fp wr n P St) (J : Nat → List (K × Value) → Heap → Prop)
    (hx : cenv.kindOf x = some .local) (hp : (cenv.scope.kind == .class || (cenv.scope.kind == .module && cenv.locals != cenv.globals)) = false)
    (hDC : D ≠ cenv.locals) (hDf : D ∉ fp) (hCf : cenv.locals ∉ fp) (hst : St 0 s.heap) (hacc : s.heap.DictOf knd D []) (hn : s.heap.Ns cenv.locals m) (hJ0 : J 0 [] s.heap)
    (hJst : ∀ i out h h', J i out h → (∀ b o, b ≠ cenv.locals → b ∉ wr → b ≠ D → h.get? b = some o → h'.get? b = some o) → J i out h') (hlen : ∀ i out h, J i out h → out.length ≤ i)
    (turn : ∀ i v out s₂ m₂ (E' : Value → Shared → Prop), i < n → P i v → J i out s₂.heap → s₂.heap.Ns cenv.locals m₂ → m₂ x = some v →
      (∃ h tk, s₂ = { s with heap := h, toks := tk }) → (∃ o, s₂.heap.get? D = some o) → (∀ b ∈ wr, ∃ o, s₂.heap.get? b = some o) →
      wpAny (model prog w) A (eval kx cenv) (fun key s₃ => ∃ k, knd.is k key = true ∧ wpAny (model prog w) A (eval vx cenv) (fun y s₄ => ∃ h₄ tk₄, s₄ = { s with heap := h₄, toks := tk₄ } ∧ (∀ b o, b = cenv.locals ∨ b = D ∨ b ∈ fp → s₂.heap.get? b = some o → h₄.get? b = some o) ∧ J (i + 1) (stored out k y) h₄) E' s₃) E' s₂)
    (hob : ∀ i h, St i h → ∀ b ∈ wr, ∃ o, h.get? b = some o)
    (hR : ∀ h' tk m' out, h'.Ns cenv.locals m' → h'.DictOf knd D out → J n out h' → R (.ok .next) { s with heap := h', toks := tk })
    (hsz : n ≤ sizeLine) :
    codeAny (model prog w) A (.compLoop (.DictComp kx vx [⟨.Name x px, iter, [], 0⟩] scope pos) 0 (.ref I) (.ref D) cenv) R s := by
  refine wo ?_
  simp (disch :=
  k_dflt (
  refine wk ?_
  refine codeAny_compLoop_testsD
    (fun k s' => ∃ h' tk m' out i, s' = { s with heap := h', toks := tk } ∧ St i h' ∧ h'.DictOf knd D out ∧ h'.Ns cenv.locals m' ∧ J i out h' ∧ i ≤ n ∧ k = n + 1 - i) ?_ (n + 1)
    ⟨s.heap, s.toks, m, [], 0, rfl, hst, hacc, hn, hJ0, Nat.zero_le _, rfl⟩
  rintro k s' ⟨H, tk, m', out, i, rfl, hst', hacc', hn', hJ, hi, rfl⟩
  have hCw : cenv.locals ∉ wr := fun h => hCf (W.sub _ h)
  have hDw : D ∉ wr := fun h => hDf (W.sub _ h)
  by_cases hlt : i < n
  · refine W.item i _ _ _ hlt hst' fun v h₁ tk₁ hPv hst₁ hk₁ => ?_
    refine wpAny_assign_Name (wpAny_storeName_local hx (hn'.at' fun o e => hk₁ _ o hCw e) (fun h₂ hn₂ hs₂ => ?_) hp)
    have up₂ : ∀ b o, b ≠ cenv.locals → b ∉ wr → H.get? b = some o → h₂.get? b = some o := fun b o hbC hbf e => hs₂.extBut b o hbC (hk₁ b o hbf e)
    have hst₂ : St (i + 1) h₂ := W.frame _ _ _ hst₁ fun b hb o e => hs₂.extBut b o (fun h => hCf (h ▸ hb)) e
    refine wpAny_tests_nil ?_
    simp only [if_true]
    have hacc₂ : h₂.DictOf knd D out := hacc'.at fun o e => up₂ D o hDC hDw e
    obtain ⟨oD, hoD, _⟩ := Heap.dictOf_iff.mp hacc₂
    have hJ₂ : J i out h₂ := hJst _ _ _ _ hJ fun b o h1 h2 _ e => up₂ b o h1 h2 e
    refine wpAny_mono (turn i v out _ _ _ hlt hPv hJ₂ hn₂ (by simp) ⟨_, _, rfl⟩ ⟨oD, hoD⟩ (hob _ _ hst₂)) (fun key s₄ h₄ => ?_) fun _ _ e => e
    obtain ⟨kk, hkk, hv⟩ := h₄
    refine wpAny_mono hv (fun y s₅ h₅ => ?_) fun _ _ e => e
    obtain ⟨h₅, tk₅, rfl, hk₅, hJ₅⟩ := h₅
    have hkv : out.length ≤ sizeLine := by
      have e1 := hlen _ _ _ hJ
      omega
    refine wpAny_dictSet_pairs (hsz := hkv) hkk (hacc₂.at fun o e => hk₅ _ o (.inr (.inl rfl)) e) fun h₆ hl₆ hs₆ => ?_
    refine ⟨n + 1 - (i + 1), by omega, h₆, _, _, stored out kk y, i + 1, rfl, ?_, hl₆, (hn₂.at' fun o e => hk₅ _ o (.inl rfl) e).sameBut hs₆ (Ne.symm hDC), hJst _ _ _ _ hJ₅ fun b o _ _ h3 e => hs₆.extBut b o h3 e, hlt, rfl⟩
    exact W.frame _ _ h₆ hst₂ fun b hb o e => hs₆.extBut b o (fun h => hDf (h ▸ hb)) (hk₅ b o (.inr (.inr hb)) e)
  · have hin : i = n := by omega
    subst hin
    refine W.done _ _ _ hst' fun h₁ tk₁ hk₁ => ?_
    exact hR h₁ tk₁ m' out (hn'.at' fun o e => hk₁ _ o hCw e) (hacc'.at fun o e => hk₁ _ o hDw e) (hJst _ _ _ _ hJ fun b o _ h2 _ e => hk₁ b o h2 e)
  )) only [↓wt]
end
section
variable {prog : Program} {w : World} {A : Around} {E : Value → Shared → Prop} {s : Shared} {h₀ : Heap} {L : Addr} {m : Str → Option Value} {env : Env}
theorem off3_app {I C D : Addr} : ∀ {l l' : List (Addr × Obj)}, LCg.Off3 I C D l → LCg.Off3 I C D l' → LCg.Off3 I C D (l ++ l') := fun h h' => LCg.Off3.of fun p hp => (List.mem_append.mp hp).elim (h.mem p) (h'.mem p)
/-- what a turn of a dict comprehension hands on -/
def DcP (h₀ : Heap) (L : Addr) (m : Str → Option Value) (s₁ : Shared) (I : Addr) (oI : Obj) (C : Addr) (oC : Obj) (D : Addr) (oD : Obj) (news : List (Addr × Obj)) (J : Value → List (Addr × Obj) → Prop) (y : Value) (s₄ : Shared) : Prop :=
  ∃ h₄ tk₄ nx', s₄ = { s₁ with heap := h₄, toks := tk₄ } ∧ Fr h₀ L h₄ m ∧ News h₀ L h₄ ((I, oI) :: (C, oC) :: (D, oD) :: (nx' ++ news)) ∧ LCg.Off3 I C D (nx' ++ news) ∧ J y nx'
/-- the dict that a dict comprehension goes over, its turns, its end -/
def DcSrc (prog : Program) (w : World) (A : Around) (h₀ : Heap) (L : Addr) (m : Str → Option Value) (env : Env) (vx : Expr) (x : Str) (scope : Scope) (cl : List (Str × Addr)) (Q : Value → Shared → Prop) (xv : Value) (s₁ : Shared) : Prop :=
  ∃ da o kvs news, ∃ J : Nat → List (Str × Value) → List (Addr × Obj) → Prop, xv = .ref da ∧ A.handled = none ∧ h₀.NoLimit ∧ Fr h₀ L s₁.heap m ∧ News h₀ L s₁.heap news ∧ (da, o) ∈ news ∧ o.IsDictOf (strKind prog w) kvs ∧ (da == sysModules) = false ∧ kvs.length ≤ 100000 ∧ J 0 [] [] ∧ (∀ i out nx, J i out nx → out.length ≤ i) ∧
      (∀ i k val out nx kt I oI C oC D oD m₂ h tk (E' : Value → Shared → Prop), kvs[i]? = some (k, val) → J i out nx → LCg.NsObj oC m₂ → m₂ x = some (.str k kt) → Fr h₀ L h m → News h₀ L h ((I, oI) :: (C, oC) :: (D, oD) :: (nx ++ news)) → LCg.Off3 I C D (nx ++ news) → ((@Ne Nat I C) ∧ (@Ne Nat I D) ∧ (@Ne Nat C D)) →
        wpAny (model prog w) A (eval vx (compEnvC scope cl C env)) (DcP h₀ L m { s₁ with heap := h, toks := tk } I oI C oC D oD news (fun y nx' => J (i + 1) (stored out k y) nx')) E' { s₁ with heap := h, toks := tk }) ∧
      (∀ D oD out nx h tk, Fr h₀ L h m → News h₀ L h ((D, oD) :: (nx ++ news)) → oD.IsDictOf (strKind prog w) out → (D == sysModules) = false → LCg.Off1 D (nx ++ news) → J kvs.length out nx → Q (.ref D) { s₁ with heap := h, toks := tk })
/-- a dict comprehension {k: f(k) for k in d}, d a dict of the ledger keyed by texts -/
theorem DictComp_K {kp px : Pos} {vx iter : Expr} {x : Str} {scope : Scope} {cl : List (Str × Addr)} {pos : Pos} {Q : Value → Shared → Prop} (_F₀ : Fr h₀ L s.heap m) (hclos : closureFor scope env = pure cl) (hcell : ∀ y ∈ scope.names, y.2 ≠ .cell) (hkind : scope.kind = .function)
    (hnames : ∀ y ∈ scope.names, y.2 = .local → scope.names.lookup y.1 = some .local) (hx : scope.names.lookup x = some .local) (hdb : (x == ("__debug__" : Str)) = false)
    (h : wpAny (model prog w) A (eval iter env) (DcSrc prog w A h₀ L m env vx x scope cl Q) E s)
    (hs : ∀ x, foldedSetIterable iter env x = pure x := by intro _; rfl) :
    wpAny (model prog w) A (eval (.DictComp (.Name x kp) vx [⟨.Name x px, iter, [], 0⟩] scope pos) env) Q E s := by
  refine wo ?_
  simp (disch :=
  k_dflt (
  refine wk ?_
  rw [arm_eval_DictComp]
  refine wpAny_comprehension_free (use := none) rfl hs hclos hkind hnames (wpAny_mono h (fun xv s₁ h₁ => ?_) fun _ _ e => e)
  obtain ⟨da, o, kvs, news, J, rfl, hh, hbig, F, N, hm, hD, hlo, hsz, hJ0, hlen, turn, fin⟩ := h₁
  obtain ⟨ep, hat⟩ := (dict_at N hm hD).dictAt
  refine wpAny_pyIter_dict hlo hat ?_
  have hIda : da ≠ s₁.heap.objs.size := Nat.ne_of_lt (Heap.lt_size (N _ hm).1)
  have W := Walks.dictKeys (prog := prog) (w := w) (knd := strKind prog w) hh s₁.heap.objs.size da hIda kvs ep
  have F1 := F.push { cls := .type "dict_keyiterator", data := .fields #[.ref da, .int 0 0, .int kvs.length 0, .int ep 0] }
  have N1 : News h₀ L (s₁.heap.push { cls := .type "dict_keyiterator", data := .fields #[.ref da, .int 0 0, .int kvs.length 0, .int ep 0] }) news := fun p hp => ⟨Heap.get?_push_of_some _ (N p hp).1, (N p hp).2⟩
  have hst0 : (s₁.heap.push { cls := .type "dict_keyiterator", data := .fields #[.ref da, .int 0 0, .int kvs.length 0, .int ep 0] }).IsKeyIter s₁.heap.objs.size da 0 kvs.length ep := ⟨_, Heap.get?_push_size _ rfl, rfl, rfl⟩
  have hat1 := hat.push { cls := .type "dict_keyiterator", data := .fields #[.ref da, .int 0 0, .int kvs.length 0, .int ep 0] }
  have hI0 : h₀.get? s₁.heap.objs.size = none := next_is_new F
  have hsz1 : (s₁.heap.push { cls := .type "dict_keyiterator", data := .fields #[.ref da, .int 0 0, .int kvs.length 0, .int ep 0] }).objs.size = s₁.heap.objs.size + 1 := Heap.size_push _ _
  have hLI : L < s₁.heap.objs.size := F.ns.lt
  have hNI : ∀ q ∈ news, q.1 < s₁.heap.objs.size := fun q hq => Heap.lt_size (N q hq).1
  generalize hH1 : s₁.heap.push { cls := .type "dict_keyiterator", data := .fields #[.ref da, .int 0 0, .int kvs.length 0, .int ep 0] } = H1 at *
  generalize s₁.heap.objs.size = I at *
  refine wpAny_newObj_type (wpAny_newFunctionEnv hcell (by intro y hy; simp at hy) (fun h₁ hns₁ hsb₁ => ?_) hkind)
  dsimp only at hns₁ hsb₁ ⊢
  have hnew : (H1.push { cls := .type "dict", dict := none, data := .dict #[] }).DictOf (strKind prog w) H1.objs.size [] := Heap.DictOf.new H1
  have hDlo : (H1.objs.size == sysModules) = false := F1.notModules (modules_low hbig)
  have hC : (H1.push { cls := .type "dict", dict := none, data := .dict #[] }).objs.size = H1.objs.size + 1 := Heap.size_push _ _
  have up1 : ∀ b o, H1.get? b = some o → (H1.push { cls := .type "dict", dict := none, data := .dict #[] }).get? b = some o := fun b o e => Heap.get?_push_of_some _ e
  generalize H1.push { cls := .type "dict", dict := none, data := .dict #[] } = H2 at *
  have fresh : ∀ a, H1.objs.size ≤ a → H1.get? a = none := fun a ha => Heap.get?_none_of_le ha
  have fresh₀ : ∀ a, H1.objs.size ≤ a → h₀.get? a = none := fun a ha => by
    cases e : h₀.get? a with
    | none => rfl
    | some o' => have := F1.keep a o' e; rw [fresh a ha] at this; cases this
  have hD0 : h₀.get? H1.objs.size = none := fresh₀ _ (Nat.le_refl _)
  have hC0 : h₀.get? H2.objs.size = none := fresh₀ _ (by rw [hC]; exact Nat.le_succ _)
  have hCD : H1.objs.size < H2.objs.size := by rw [hC]; exact Nat.lt_succ_self _
  have hID : I < H1.objs.size := by rw [hsz1]; exact Nat.lt_succ_self _
  generalize H1.objs.size = D at *
  generalize H2.objs.size = C at *
  have old : ∀ b o, H1.get? b = some o → h₁.get? b = some o := fun b o e => by
    have hb : b < D := by
      by_cases hb : b < D
      · exact hb
      · rw [fresh b (Nat.le_of_not_lt hb)] at e; cases e
    exact hsb₁.extBut b o (Nat.ne_of_lt (Nat.lt_trans hb hCD)) (Heap.get?_push_of_some _ (up1 b o e))
  have hacc : h₁.DictOf (strKind prog w) D [] := hnew.at fun o e => hsb₁.extBut _ _ (Nat.ne_of_lt hCD) (Heap.get?_push_of_some _ e)
  have hoff : LCg.Off3 I C D news := LCg.Off3.of fun p hp => ⟨Nat.ne_of_lt (hNI p hp), Nat.ne_of_lt (Nat.lt_trans (hNI p hp) (Nat.lt_trans hID hCD)), Nat.ne_of_lt (Nat.lt_trans (hNI p hp) hID)⟩
  have hIC : @Ne Nat I C := Nat.ne_of_lt (Nat.lt_trans hID hCD)
  have hID' : @Ne Nat I D := Nat.ne_of_lt hID
  have hCD' : @Ne Nat C D := Nat.ne_of_gt hCD
  have hIL : @Ne Nat I L := Nat.ne_of_gt hLI
  have hCL : @Ne Nat C L := Nat.ne_of_gt (Nat.lt_trans hLI (Nat.lt_trans hID hCD))
  have hDL : @Ne Nat D L := Nat.ne_of_gt (Nat.lt_trans hLI hID)
  have daI : @Ne Nat da I := (hoff.mem _ hm).1
  have daC : @Ne Nat da C := (hoff.mem _ hm).2.1
  have daD : @Ne Nat da D := (hoff.mem _ hm).2.2
  -- what is handed on, when all but I, C and D stand
  have frK : ∀ {h h' : Heap}, Fr h₀ L h m → (∀ b o, b ≠ C → b ∉ [I] → b ≠ D → h.get? b = some o → h'.get? b = some o) → Fr h₀ L h' m := fun {h h'} F k => by
    obtain ⟨oL, a1, a2, hL, a3⟩ := F.ns
    exact ⟨⟨oL, a1, a2, k L oL (Ne.symm hCL) (by simpa using Ne.symm hIL) (Ne.symm hDL) hL, a3⟩, fun b o e => k b o (fun z => by rw [z, hC0] at e; cases e) (fun z => by rw [List.mem_singleton.mp z, hI0] at e; cases e) (fun z => by rw [z, hD0] at e; cases e) (F.keep b o e), F.above⟩
  have nwK : ∀ {h h' : Heap} {l : List (Addr × Obj)}, News h₀ L h l → LCg.Off3 I C D l → (∀ b o, b ≠ C → b ∉ [I] → b ≠ D → h.get? b = some o → h'.get? b = some o) → News h₀ L h' l := fun {h h' l} N O k q hq => by
    obtain ⟨z1, z2, z3⟩ := O.mem q hq
    exact ⟨k _ _ z2 (by simpa using z1) z3 (N q hq).1, (N q hq).2⟩
  refine codeAny_compStart_dict ?loop (W.self 0 _ _ _ ⟨hst0.at fun o e => old _ _ e, hat1.at' fun o e => old _ _ e⟩ ?loop)
  case loop =>
    refine dcomp_loop (s := { s₁ with heap := h₁, toks := s₁.toks + ([] : List (Str × Value)).length }) (cenv := compEnvC scope cl C env) W (fun i out h => ∃ nx, J i out nx ∧ Fr h₀ L h m ∧ News h₀ L h (nx ++ news) ∧ LCg.Off3 I C D (nx ++ news)) (lookup_relabel_local hx) (by simp [compEnvC, relabel, hkind]) (Ne.symm hCD') ?_ ?_ ⟨hst0.at fun o e => old _ _ e, hat1.at' fun o e => old _ _ e⟩ hacc hns₁ ⟨[], hJ0, F1.keeps old, fun p hp => ⟨old _ _ (N1 p hp).1, (N1 p hp).2⟩, hoff⟩ ?_ ?_ ?_ ?_ ?_ (by rw [sizeLine_eq]; omega)
    · intro z
      rcases List.mem_cons.mp z with z | z
      · exact hID' z.symm
      · exact daD (List.mem_singleton.mp z).symm
    · intro z
      rcases List.mem_cons.mp z with z | z
      · exact hIC z.symm
      · exact daC (List.mem_singleton.mp z).symm
    · rintro i out h h' ⟨nx, x1, x2, x3, x4⟩ k
      exact ⟨nx, x1, frK x2 k, nwK x3 x4 k, x4⟩
    · rintro i out h ⟨nx, x1, _⟩
      exact hlen _ _ _ x1
    · rintro i v out s₂ m₂ E' hi ⟨k, val, hkv, hkey⟩ ⟨nx, x1, x2, x3, x4⟩ hn₂ hm₂ ⟨h, tk, rfl⟩ ⟨oD, hoD⟩ hwr
      obtain ⟨oI, hoI⟩ := hwr I (List.mem_singleton.mpr rfl)
      obtain ⟨oC, hoC, hNC⟩ := LCg.ns_obj hn₂
      obtain ⟨kt, rfl⟩ : ∃ kt, v = .str k kt := by
        cases v <;> simp [PySem.strKind, Value.isStrOf] at hkey
        exact ⟨_, by rw [hkey]⟩
      refine wpAny_Name (wpAny_loadName_local (by simp [compEnvC, relabel, hkind]) (lookup_relabel_local hx) hn₂ hm₂ ?_) hdb
      refine ⟨k, strKind_is _ _ _ _, ?_⟩
      have N₃ : News h₀ L h ((I, oI) :: (C, oC) :: (D, oD) :: (nx ++ news)) := fun p hp => by
        rcases List.mem_cons.mp hp with rfl | hp
        · exact ⟨hoI, hIL, hI0⟩
        rcases List.mem_cons.mp hp with rfl | hp
        · exact ⟨hoC, hCL, hC0⟩
        rcases List.mem_cons.mp hp with rfl | hp
        · exact ⟨hoD, hDL, hD0⟩
        exact x3 p hp
      refine wpAny_mono (turn i k val out nx kt I oI C oC D oD m₂ h tk E' hkv x1 hNC hm₂ x2 N₃ x4 ⟨hIC, hID', hCD'⟩) (fun y s₄ hq => ?_) fun _ _ e => e
      obtain ⟨h₄, tk₄, nx', rfl, F₄, N₄, O₄, J₄⟩ := hq
      refine ⟨h₄, tk₄, rfl, fun b o' hb e => ?_, nx', J₄, F₄, fun p hp => N₄ p (.tail _ (.tail _ (.tail _ hp))), O₄⟩
      rcases hb with rfl | rfl | hb
      · have z := hoC.symm.trans e
        cases z
        exact (N₄ _ (.tail _ (.head _))).1
      · have z := hoD.symm.trans e
        cases z
        exact (N₄ _ (.tail _ (.tail _ (.head _)))).1
      · rcases List.mem_cons.mp hb with rfl | hb
        · have z := hoI.symm.trans e
          cases z
          exact (N₄ _ (.head _)).1
        · rw [List.mem_singleton.mp hb] at e ⊢
          have z1 := (x3 _ (List.mem_append_right _ hm)).1
          have z2 := (N₄ _ (.tail _ (.tail _ (.tail _ (List.mem_append_right _ hm))))).1
          have z := z1.symm.trans e
          cases z
          exact z2
    · intro i h st b hb
      rw [List.mem_singleton.mp hb]
      obtain ⟨⟨o', e, _⟩, _⟩ := st
      exact ⟨o', e⟩
    · rintro h' tk m' out hn' hDo ⟨nx, x1, x2, x3, x4⟩
      refine ⟨m', hn', fun h'' hs'' => ?_⟩
      obtain ⟨oD, hoD, hisD⟩ := Heap.dictOf_iff.mp hDo
      have k2 : ∀ b o, b ≠ C → h'.get? b = some o → h''.get? b = some o := fun b o hb e => hs''.extBut b o hb e
      refine fin D oD out nx h'' tk (frK x2 fun b o h1 _ _ e => k2 b o h1 e) (fun p hp => ?_) hisD hDlo (LCg.Off3.one x4) x1
      rcases List.mem_cons.mp hp with rfl | hp
      · exact ⟨k2 _ _ (Ne.symm hCD') hoD, hDL, hD0⟩
      · exact nwK x3 x4 (fun b o h1 _ _ e => k2 b o h1 e) p hp
  )) only [↓wt]
end
end
section
open PySem PySem.W PyProof.Rows PySem.Calls
set_option Elab.async false
set_option maxRecDepth 100000 
set_option maxHeartbeats 8000000 
theorem kwC18_0 : True := by
  k_with_none
  k_with "MEM" => first | (with_reducible exact List.mem_cons_self) | ((with_reducible refine List.mem_cons_of_mem _ ?_); k_extra "MEM")
  k_with "ENTER" => (refine' code_defP ?zqk1 ?zqk2 ?zqk3 ?zqk4 ?zqk5 ?zqkA ?zqkF ?zqkK ?zqk6 ?zqk7 ?zqk8 ?zqk9 ?zqkB ?_ ?zqc2 ?zqc3 ?zqc4 ?zqc5; (case zqkA => exact rfl); (case zqkF => exact rfl); (case zqkK => exact rfl); (case zqk1 => k_asm); (case zqk2 => k_asm); (case zqk3 => k_asm); (case zqk4 => k_asm); (case zqk5 => k_asm); (case zqk6 => k_is); (case zqk7 => k_is); (case zqk8 => k_room); (case zqk9 => first | exact BindsTo.of_eq rfl | exact binds_K (by k_in) rfl (by k_is) rfl rfl rfl); (case zqc5 => decide); (case zqkB => exact locs rfl); (case zqc2 => exact rfl); (case zqc3 => exact rfl); (case zqc4 => exact rfl); k_whole; intro g' L' h' Q' FG' F' N' B' X' T' hQ' e9 A9; (try dsimp only); (try k_lift B'); (try k_fold))
  k_with "S0" => ((fail_if_success (with_reducible show Post _ _ _ _ _ _ _ _)); (fail_if_success (with_reducible show LoopP _ _ _ _ _ _ _ _)); (fail_if_success (with_reducible show CmpP _ _ _ _ _ _ _ _ _ _ _ _ _ _ _)))
  k_with "S1" => first | (k_unfold; (try dsimp only)) | (k_end; wrow_close) | walk1 | (with_reducible refine hand (by assumption) ?_; try dsimp only) | (dsimp only; walk1) | (leave1; try dsimp only)
  k_with "ROOM" => first | (refine' room0 ?zqh ?zqe; (case zqh => assumption); (case zqe => exact rfl)) | (refine' room1 ?zqh ?zqe; (case zqh => assumption); (case zqe => exact rfl)) | (refine' room2 ?zqh ?zqe; (case zqh => assumption); (case zqe => exact rfl)) | (refine' room3 ?zqh ?zqe; (case zqh => assumption); (case zqe => exact rfl)) | (refine' roomz ?zqh; (case zqh => assumption)) | ktr_room
  k_with "UNITS" => first | (refine' room0 ?zqh ?zqe; (case zqh => assumption); (case zqe => exact rfl)) | (refine' room1 ?zqh ?zqe; (case zqh => assumption); (case zqe => exact rfl)) | (refine' room2 ?zqh ?zqe; (case zqh => assumption); (case zqe => exact rfl)) | (refine' room3 ?zqh ?zqe; (case zqh => assumption); (case zqe => exact rfl)) | exact lt_num rfl | ktr_units
  k_with "AR" => first | assumption | exact Nat.le_max_right _ _ | exact Nat.le_max_left _ _ | exact Nat.max_lt.mpr ⟨by assumption, by assumption⟩ | (refine' le_up ?zqh ?zqe; (case zqh => assumption); (case zqe => exact rfl)) | omega
  k_with "SUT" => first | exact sub_self | (refine sub_skip ?_; k_extra "SUT")
  k_with "SUB" => first | exact sub_nil | ((with_reducible refine' sub_cons ?zqsm ?_); (case zqsm => k_mem); k_extra "SUB") | k_extra "SUT"
  k_with "SUK" => first | exact sub_nil | k_extra "SUT" | k_extra "SUB"
  k_with "KEEP" => first | (refine keep_hd (List.Mem.head _) ?_; k_extra "KEEP") | exact keep_of (by k_extra "SUK") | ((with_reducible refine' keep_cons ?zqkm ?_); (case zqkm => k_mem); k_extra "KEEP")
  k_with "APQ" => (rename Apart _ _ => h9; first | exact Apart.at h9 (by k_extra "MEM") (by k_extra "MEM") | exact ap_at h9 (by k_extra "MEM") (by k_extra "MEM") | (clear h9; k_extra "APQ"))
  k_with "ANQ" => (rename AllNe _ _ => h9; first | exact AllNe.at h9 (by k_extra "MEM") | exact an_at h9 (by k_extra "MEM") | (clear h9; k_extra "ANQ"))
  k_with "ALQ" => (rename AllLt _ _ => h9; first | exact lt_ne h9 (by k_extra "MEM") | exact lt_en h9 (by k_extra "MEM") | exact lt_ne2 h9 (by assumption) (by k_extra "MEM") | exact lt_en2 h9 (by assumption) (by k_extra "MEM") | (clear h9; k_extra "ALQ"))
  k_with "NEQ" => first | assumption | exact Ne.symm (by assumption) | exact Nat.ne_of_lt (by assumption) | exact Nat.ne_of_gt (by assumption) | k_extra "ALQ" | k_extra "ANQ" | k_extra "APQ" | omega
  k_with "APS" => (rename Apart _ _ => h9; first | exact Apart.subA h9 rfl (by k_extra "SUK") | (clear h9; k_extra "APS"))
  k_with "NE1" => (refine neN ?_; (try dsimp only); k_extra "NEQ")
  k_with "ALL" => first | exact all_nil | (rename AllLt _ _ => h9; exact lt_sub h9 (by k_extra "SUT")) | (refine' all_cons ?zqa ?zqb; (case zqa => k_ne); (case zqb => k_all))
  k_with "ALN" => first | exact ne_nil | (refine ne_cons ?_ ?_; (focus ((try dsimp only); k_extra "NEQ")); k_extra "ALN")
  k_with "APM" => first | exact ap_nil | k_extra "APS" | (refine ap_cons ?_ ?_; (focus k_extra "ALN"); k_extra "APM")
  k_with "CA" => ((case zqkB => k_asm); (case zqkF => k_asm); (case zqkX => k_asm); (case zqkN => k_asm))
  k_with "CB" => ((case zqkT => k_asm); (case zqkK => first | exact rfl | assumption); (case zqkd => k_extra "ROOM"); (case zqku => k_extra "UNITS"))
  k_with "CE" => all_goals ((try ((with_reducible rename News _ _ _ _ => h9); simp only [List.nil_append, List.cons_append] at h9)); (try ((with_reducible rename Apart [] _ => h7); clear h7)); (try dsimp only [Option.getD_some, Option.getD_none]); (try k_sweep); (try k_fold))
  k_with "CZ" => all_goals ((try dsimp only [Option.getD_some, Option.getD_none]); (try k_sweep); (try k_fold))
  k_with "call builtin:len" => (k_here; (with_reducible show wpAny _ _ (call (Value.builtin "len") [Value.ref _]) _ _ _); k_dflt (refine' len_sym ?zqk1 ?zqk2 ?zqk3 ?_; (case zqk1 => k_asm); (case zqk2 => k_mem); (case zqk3 => k_extra "AR"); k_whole))
  k_with "getMethod ref" => (k_here; (with_reducible show wpAny _ _ (getMethod (Value.ref _) (PySem.Str.ofString "get") _) _ _ _); k_dflt (refine' get_method ?zqk1 ?zqk2 ?zqk3 ?_; (case zqk1 => k_asm); (case zqk2 => k_mem); (case zqk3 => with_reducible assumption); k_whole))
  k_with "call builtin:dict.get" => (k_here; (with_reducible show wpAny _ _ (call (Value.builtin "dict.get") [Value.ref _, Value.str _ _]) _ _ _); k_dflt (refine' get_call ?zqk0 ?zqk1 ?zqk2 ?zqk3 ?_; (case zqk1 => k_asm); (case zqk2 => k_mem); (case zqk3 => with_reducible assumption); (case zqk0 => with_reducible assumption); k_whole))
  k_with "LOCA" => first | exact LocArgs.nil | (refine' LocArgs.cons ?zqlk ?zqld ?zqlv ?zqlt; (case zqlk => kernel_rfl!); (case zqld => kernel_rfl); (case zqlv => first | rfl | assumption); (case zqlt => k_extra "LOCA"))
  k_with "eval Call" => (k_here; (with_reducible show wpAny _ _ (eval (Expr.Call (Expr.Name _ _) (Expr.Name _ _ :: _) [] _) _) _ _ _); first | ((with_reducible refine' callO_loc ?zqF ?zqX ?zqT ?zqe ?zqk ?zqa ?zqb ?zqc ?zql ?_); k_dflt ((case zqF => k_asm); (case zqX => k_asm); (case zqT => k_asm); (case zqa => exact rfl); (case zqb => kernel_rfl!); (case zqc => kernel_rfl); (case zqe => k_is); (case zqk => k_is); (case zql => k_extra "LOCA"); k_whole)) | ((with_reducible refine' callC_loc ?zqF ?zqX ?zqT ?zqe ?zqk ?zqa ?zqb ?zqc ?zql ?_); k_dflt ((case zqF => k_asm); (case zqX => k_asm); (case zqT => k_asm); (case zqa => exact rfl); (case zqb => kernel_rfl!); (case zqc => kernel_rfl); (case zqe => k_is); (case zqk => k_is); (case zql => k_extra "LOCA"); k_whole)))
  k_with "eval Attribute Name" => (k_here; (with_reducible refine' attrO_loc ?zqF ?zqv ?zqa ?zqb ?zqc ?_); k_dflt ((case zqF => k_asm); (case zqa => exact rfl); (case zqb => kernel_rfl!); (case zqc => kernel_rfl); (case zqv => first | rfl | assumption); k_whole))
  k_with "ite" => (k_here; first | (k_closed; first | ((with_reducible refine ite_pos ?zqk2 ?_); k_dflt (case zqk2 => decide)) | ((with_reducible refine ite_neg ?zqk2 ?_); k_dflt (case zqk2 => decide))) | (refine' ite_bf ?zqk1 ?_; (case zqk1 => first | assumption | exact decide_eq_false (by omega) | exact beq_eq_false_iff_ne.mpr (by omega))) | (refine' ite_bt ?zqk1 ?_; (case zqk1 => first | assumption | exact decide_eq_true (by omega) | exact beq_iff_eq.mpr (by omega))))
  k_with "call type:dict" => (k_here; (with_reducible show wpAny _ _ (call (Value.type "dict") [Value.ref _]) _ _ _); k_dflt (refine' dict_copyK ?zqF ?zqN ?zqb ?zqm ?zqD ?zql ?zqz ?_; (case zqF => k_asm); (case zqN => k_asm); (case zqb => exact Top.nolimit (by k_asm)); (case zqm => k_mem); (case zqD => with_reducible assumption); (case zql => with_reducible assumption); (case zqz => omega); k_whole); intro d' h' o' F' N' l1 lo' hd'; (try k_lt l1))
  k_with "OWN" => (intro p9 hp9; repeat' (first | exact hp9 | refine List.mem_append.mpr (Or.inr ?_) | refine List.mem_cons_of_mem _ ?_))
  k_with "eval Name" => (k_here; first | ((with_reducible refine' nameO_L ?zqF ?zqv ?_ ?zqa ?zqb ?zqc); k_dflt ((case zqF => k_asm); (case zqa => exact rfl); (case zqb => kernel_rfl!); (case zqc => kernel_rfl); (case zqv => first | rfl | assumption); k_whole)) | ((with_reducible refine' nameO_K ?zqF ?zqX ?zqT ?zqe ?_ ?zqa ?zqb ?zqc); k_dflt ((case zqF => k_asm); (case zqX => k_asm); (case zqT => k_asm); (case zqa => exact rfl); (case zqb => kernel_rfl!); (case zqc => kernel_rfl); (case zqe => k_is); k_whole)) | ((with_reducible refine' nameC_L ?zqF ?zqv ?_ ?zqa ?zqb ?zqc); k_dflt ((case zqF => k_asm); (case zqa => exact rfl); (case zqb => kernel_rfl!); (case zqc => kernel_rfl); (case zqv => first | rfl | assumption); k_whole)) | ((with_reducible refine' nameC_K ?zqF ?zqX ?zqT ?zqe ?_ ?zqa ?zqb ?zqc); k_dflt ((case zqF => k_asm); (case zqX => k_asm); (case zqT => k_asm); (case zqa => exact rfl); (case zqb => kernel_rfl!); (case zqc => kernel_rfl); (case zqe => k_is); k_whole)))
  trivial
/-- one attribute: its name, and the vector it is -/
structure Att where
  nm : Str
  kd : Str
  x : Addr
  d : Addr
  l : Addr
  kt : Tok
  t1 : Tok
  t2 : Tok
  t3 : Tok
  t4 : Tok
  t5 : Tok
  av : Value
  sh : Value
  lo : Value
  n1 : Nat
  n2 : Nat
  us : List Value
def Att.led (w : World) (a : Att) : List (Addr × Obj) := [(a.x, instObj 113 a.d), (a.d, dictOf (vd w.params a.t1 a.t2 a.t3 a.t4 a.t5 (.str a.kd a.kt) (.ref a.l) a.av a.sh a.lo) a.n1), (a.l, listOf a.us.toArray a.n2)]
def attKvs (as : List Att) : List (Str × Value) := as.map fun a => (a.nm, .ref a.x)
def attLed (w : World) (as : List Att) : List (Addr × Obj) := as.flatMap (Att.led w)
/-- what _law_seen makes of the attributes -/
inductive SeenR : List Att → List (Str × Value) → List (Addr × Obj) → Prop
  | nil : SeenR [] [] []
  | snoc {as : List Att} {out : List (Str × Value)} {nx : List (Addr × Obj)} {a : Att} {T l : Addr} {kt : Tok} {n0 n' : Nat} : SeenR as out nx → SeenR (as ++ [a]) (out ++ [(a.nm, .ref T)]) ((T, { cls := .type "tuple", data := .seq #[.str a.kd kt, .ref l] n0 }) :: (l, listOf a.us.toArray n') :: nx)
theorem SeenR.length {as : List Att} {out : List (Str × Value)} {nx : List (Addr × Obj)} (h : SeenR as out nx) : out.length = as.length := by
  induction h with
  | nil => rfl
  | snoc _ ih => rw [List.length_append, List.length_append, ih]; rfl
theorem SeenR.names {as : List Att} {out : List (Str × Value)} {nx : List (Addr × Obj)} (h : SeenR as out nx) : out.map (·.1) = as.map (·.nm) := by
  induction h with
  | nil => rfl
  | snoc _ ih => rw [List.map_append, List.map_append, ih]; rfl
theorem stored_new {kvs : List (Str × Value)} {k : Str} {v : Value} (h : k ∉ kvs.map (·.1)) : stored kvs k v = kvs ++ [(k, v)] := by
  unfold stored
  rw [if_neg]
  intro e
  obtain ⟨p, hp, hk⟩ := List.any_eq_true.mp e
  exact h (List.mem_map.mpr ⟨p, hp, of_decide_eq_true hk⟩)
theorem dcp_of {h₀ h₄ : Heap} {L : Addr} {m : Str → Option Value} {s₁ : Shared} {I C D T l : Addr} {oI oC oD oT oL : Obj} {news nx all : List (Addr × Obj)} {J : Value → List (Addr × Obj) → Prop} {y : Value} {tk₄ : Tok} (F : Fr h₀ L h₄ m) (N : News h₀ L h₄ all) (hT : (T, oT) ∈ all) (hl : (l, oL) ∈ all)
    (h1 : (I, oI) ∈ all) (h2 : (C, oC) ∈ all) (h3 : (D, oD) ∈ all) (h4 : ∀ q ∈ nx ++ news, q ∈ all) (off : LCg.Off3 I C D (nx ++ news)) (o1 : @Ne Nat T I ∧ @Ne Nat T C ∧ @Ne Nat T D) (o2 : @Ne Nat l I ∧ @Ne Nat l C ∧ @Ne Nat l D) (j : J y ((T, oT) :: (l, oL) :: nx)) :
    DcP h₀ L m s₁ I oI C oC D oD news J y { s₁ with heap := h₄, toks := tk₄ } := by
  refine ⟨h₄, tk₄, (T, oT) :: (l, oL) :: nx, rfl, F, fun q hq => N q ?_, ⟨o1, o2, off⟩, j⟩
  rcases List.mem_cons.mp hq with rfl | hq
  · exact h1
  rcases List.mem_cons.mp hq with rfl | hq
  · exact h2
  rcases List.mem_cons.mp hq with rfl | hq
  · exact h3
  rcases List.mem_cons.mp hq with rfl | hq
  · exact hT
  rcases List.mem_cons.mp hq with rfl | hq
  · exact hl
  exact h4 q hq
theorem allLt_mem {d : Nat} : ∀ {l : List (Addr × Obj)}, AllLt d l → ∀ q ∈ l, q.1 < d
  | [], _, _, h => nomatch h
  | _ :: _, x, p, h => by
    rcases List.mem_cons.mp h with rfl | h
    · exact x.1
    · exact allLt_mem x.2 p h
theorem allLt_right {d : Nat} : ∀ {l l' : List (Addr × Obj)}, AllLt d (l ++ l') → AllLt d l'
  | [], _, h => h
  | _ :: r, _, h => allLt_right (l := r) h.2
theorem off1_all {D : Addr} : ∀ {l : List (Addr × Obj)}, LCg.Off1 D l → ∀ q ∈ l, q.1 ≠ D
  | [], _, _, h => nomatch h
  | _ :: _, x, p, h => by
    rcases List.mem_cons.mp h with rfl | h
    · exact x.1
    · exact off1_all x.2 p h
theorem att_mem {w : World} {as : List Att} {a : Att} (h : a ∈ as) : (a.x, instObj 113 a.d) ∈ attLed w as ∧ (a.d, dictOf (vd w.params a.t1 a.t2 a.t3 a.t4 a.t5 (.str a.kd a.kt) (.ref a.l) a.av a.sh a.lo) a.n1) ∈ attLed w as ∧ (a.l, listOf a.us.toArray a.n2) ∈ attLed w as :=
  ⟨List.mem_flatMap.mpr ⟨a, h, .head _⟩, List.mem_flatMap.mpr ⟨a, h, .tail _ (.head _)⟩, List.mem_flatMap.mpr ⟨a, h, .tail _ (.tail _ (.head _))⟩⟩
theorem att_value {as : List Att} {a : Att} (hnd : (as.map (·.nm)).Nodup) (h : a ∈ as) : valueAt (attKvs as) a.nm = some (.ref a.x) := by
  induction as with
  | nil => cases h
  | cons b r ih =>
    have hn := List.nodup_cons.mp hnd
    rcases List.mem_cons.mp h with rfl | h
    · simp [attKvs, valueAt]
    · have hne : b.nm ≠ a.nm := fun e => hn.1 (by show b.nm ∈ _; rw [e]; exact List.mem_map.mpr ⟨a, h, rfl⟩)
      have := ih hn.2 h
      simpa [attKvs, valueAt, hne] using this
theorem take_next {as : List Att} {i : Nat} {a : Att} (h : as[i]? = some a) : as.take (i + 1) = as.take i ++ [a] := by simp [List.take_add_one, h]
theorem nd_take {as : List Att} {i : Nat} {a : Att} (hnd : (as.map (·.nm)).Nodup) (h : as[i]? = some a) : a.nm ∉ (as.take i).map (·.nm) := by
  have e : as = as.take i ++ a :: as.drop (i + 1) := by
    have e1 := (List.take_append_drop (i + 1) as).symm
    rw [take_next h, List.append_assoc] at e1
    exact e1
  rw [e, List.map_append, List.map_cons] at hnd
  intro hm
  have := (List.nodup_append.mp hnd).2.2 _ hm _ (.head _)
  exact this rfl
section
variable {prog : Program} {w : World} {A : Around} {E : Value → Shared → Prop} {s : Shared} {h₀ : Heap} {L : Addr} {news : List (Addr × Obj)}
theorem getd {da : Addr} {o : Obj} {kvs : List (Str × Value)} {k : Str} {t : Tok} {v : Value} {Q : Value → Shared → Prop} (N : News h₀ L s.heap news) (hm : (da, o) ∈ news) (hD : o.IsDictOf (strKind prog w) kvs) (hv : valueAt kvs k = some v) (h : Q v { s with toks := s.toks + 1 }) :
    wpAny (model prog w) A (getItem (.ref da) (.str k t)) Q E s := wpAny_getItem_of (strKind_is prog w k t) (dict_at N hm hD).mapOf hv h
theorem is_listM {l : Addr} {us : List Value} {n : Nat} (N : News h₀ L s.heap news) (hm : (l, listOf us.toArray n) ∈ news) : s.heap.IsList l us.toArray := ⟨_, (N _ hm).1, rfl, n, rfl⟩
end
theorem kwC18_1 : True := by
  k_with "call type:list" => (k_here; (with_reducible show wpAny _ _ (call (Value.type "list") [Value.ref _]) _ _ _); k_dflt (refine' list_copyK ?zqk1 ?zqk2 ?zqk3 ?_ ?zqz; (case zqk1 => k_asm); (case zqk2 => k_asm); (case zqk3 => exact is_listM (by k_asm) (by k_mem)); (case zqz => rw [List.size_toArray, sizeLine_eq]; omega); k_whole); intro D' c' h' F' N' l1; (try k_lt l1); (try k_sweep))
  k_with "getItem ref str" => (k_here; k_dflt (refine' getd ?zqk1 ?zqk2 ?zqk3 ?zqk4 ?_; (case zqk1 => k_asm); (case zqk2 => k_mem); (case zqk3 => with_reducible assumption); (case zqk4 => with_reducible assumption); k_whole))
  k_with "MEM" => first | exact List.Mem.head _ | assumption | (refine List.Mem.tail _ ?_; k_extra "MEM") | (refine List.mem_append_right _ ?_; k_extra "MEM")
  k_with "SUBM" => first | exact List.forall_mem_nil _ | assumption | (refine List.forall_mem_cons.mpr ⟨by k_extra "MEM", ?_⟩; k_extra "SUBM")
  trivial
theorem seen_tells {w : World} {x d da : Addr} {t1 t2 t3 t4 t5 : Tok} {kind items av sh lo : Value} {n1 : Nat} {o : Obj} {as : List Att} (hav : (av = .none ∧ as = []) ∨ (av = .ref da ∧ o.IsDictOf (strKind PySem.Challenge.rw_pq1344_01.row.prog w) (attKvs as) ∧ (da == sysModules) = false ∧ (as.map (·.nm)).Nodup ∧ as.length ≤ 10 ∧ ∀ a ∈ as, a.us.length ≤ 600)) :
    Tells w 2 810 [.ref x] ((x, instObj 113 d) :: (d, dictOf (vd w.params t1 t2 t3 t4 t5 kind items av sh lo) n1) :: (da, o) :: attLed w as) [] (Gives ((x, instObj 113 d) :: (d, dictOf (vd w.params t1 t2 t3 t4 t5 kind items av sh lo) n1) :: (da, o) :: attLed w as) fun P => ∀ D oD out nx, oD.IsDictOf (strKind PySem.Challenge.rw_pq1344_01.row.prog w) out → SeenR as out nx → (D == sysModules) = false → P (.ref D) ((D, oD) :: nx)) := by
  refine wo ?_
  simp (disch :=
  k_dflt (
  refine wk ?_
  rcases hav with ⟨rfl, rfl⟩ | ⟨rfl, hD, hlo, hnd, hal, hau⟩
  · refine' tells_cellsP (binds := [(Str.ofString "v", .ref x)]) ?k1 ?k2 ?k3 ?k4 ?k5 ?k6 ?k7 ?k8 ?k9 ?_
    case k1 => k_is
    case k2 => k_is
    case k3 => first | exact fun s _ => BindsTo.of_eq rfl | exact fun s X => binds_K X rfl (by k_is) rfl rfl rfl
    case k4 => exact rfl
    case k5 => decide +kernel
    case k6 => rfl
    case k7 => rfl
    case k8 => rfl
    case k9 => decide
    intro p loose mean mg mb dp un gd cn cs L a ccd cl outer base g L' s cells Pq B F K N Y l1 T hdp hun hPq e9 A9
    k_cells Y
    (try simp only [List.cons_append, List.nil_append] at N)
    (try dsimp only)
    repeat' (k_extra "S0"; k_extra "S1")
    (rename _ ∧ _ => l9); ((try dsimp only); exact post_of _ _ rfl (by k_asm) (by k_asm) (by k_extra "SUB") (fun q hq _ => .tail _ (.tail _ hq)) (⟨(by exact ⟨AllNe.lt l9.2, True.intro⟩), fun P hP => hP _ _ [] [] (by assumption) .nil (by assumption)⟩))
  · refine' tells_cellsP (binds := [(Str.ofString "v", .ref x)]) ?k1 ?k2 ?k3 ?k4 ?k5 ?k6 ?k7 ?k8 ?k9 ?_
    case k1 => k_is
    case k2 => k_is
    case k3 => first | exact fun s _ => BindsTo.of_eq rfl | exact fun s X => binds_K X rfl (by k_is) rfl rfl rfl
    case k4 => exact rfl
    case k5 => decide +kernel
    case k6 => rfl
    case k7 => rfl
    case k8 => rfl
    case k9 => decide
    intro p loose mean mg mb dp un gd cn cs L a ccd cl outer base g L' s cells Pq B F K N Y l1 T hdp hun hPq e9 A9
    k_cells Y
    (try simp only [List.cons_append, List.nil_append] at N)
    (try dsimp only)
    rename_i oc hoc
    repeat' ((fail_if_success (with_reducible show wpAny _ _ (eval (Expr.DictComp _ _ _ _ _) _) _ _ _)); k_extra "S0"; k_extra "S1")
    k_dflt (refine' DictComp_K (h₀ := g) (L := L') ?c0 ?c1 ?c2 ?c3 ?c4 ?c5 ?c6 ?_)
    case c0 => k_asm
    case c1 => with_unfolding_all rfl
    case c2 => decide
    case c3 => rfl
    case c4 => decide
    case c5 => rfl
    case c6 => decide
    repeat' ((fail_if_success (with_reducible show DcSrc _ _ _ _ _ _ _ _ _ _ _ _ _ _)); k_extra "S0"; k_extra "S1")
    refine' ⟨da, o, attKvs as, _, (fun i out nx => SeenR (as.take i) out nx ∧ Apart nx ((L' + 1, oc) :: (x, instObj 113 d) :: (d, dictOf (vd w.params t1 t2 t3 t4 t5 kind items (.ref da) sh lo) n1) :: (da, o) :: attLed w as)), rfl, rfl, Top.nolimit T, ?F, ?N, ?mem, hD, hlo, (by simp [attKvs]; omega), ⟨.nil, True.intro⟩, ?len, ?turn, ?fin⟩
    case F => k_asm
    case N => k_asm
    case mem => k_mem
    case len =>
      intro i out nx h
      rw [SeenR.length h.1, List.length_take]
      omega
    case turn =>
      intro i k val out nx kt I oI C oC D oD m₂ h tk E' hkv hJ hNC
      obtain ⟨hJ, hAp⟩ := hJ
      revert hNC
      intro hNC hm₂ F₁ N₁ off ne
      obtain ⟨a, ha, hka⟩ : ∃ a, as[i]? = some a ∧ (a.nm, Value.ref a.x) = (k, val) := by
        simpa [attKvs] using hkv
      obtain ⟨rfl, rfl⟩ := Prod.mk.inj hka
      have hma : a ∈ as := List.mem_of_getElem? ha
      obtain ⟨m1, m2, m3⟩ := att_mem (w := w) hma
      have hva := att_value hnd hma
      have hul := hau a hma
      have N₂ : News g L' h ((I, oI) :: (C, oC) :: (D, oD) :: (a.x, instObj 113 a.d) :: (a.d, dictOf (vd w.params a.t1 a.t2 a.t3 a.t4 a.t5 (.str a.kd a.kt) (.ref a.l) a.av a.sh a.lo) a.n1) :: (a.l, listOf a.us.toArray a.n2) :: (L' + 1, oc) :: (x, instObj 113 d) :: (d, dictOf (vd w.params t1 t2 t3 t4 t5 kind items (.ref da) sh lo) n1) :: (da, o) :: (nx ++ ((L' + 1, oc) :: (x, instObj 113 d) :: (d, dictOf (vd w.params t1 t2 t3 t4 t5 kind items (.ref da) sh lo) n1) :: (da, o) :: attLed w as))) := by
        have hsub : ∀ q ∈ nx ++ ((L' + 1, oc) :: (x, instObj 113 d) :: (d, dictOf (vd w.params t1 t2 t3 t4 t5 kind items (.ref da) sh lo) n1) :: (da, o) :: attLed w as), q ∈ (I, oI) :: (C, oC) :: (D, oD) :: (nx ++ ((L' + 1, oc) :: (x, instObj 113 d) :: (d, dictOf (vd w.params t1 t2 t3 t4 t5 kind items (.ref da) sh lo) n1) :: (da, o) :: attLed w as)) := fun q hq => .tail _ (.tail _ (.tail _ hq))
        refine fun p hp => N₁ p (?_ : p ∈ _)
        revert p
        k_extra "SUBM"
      have offA := off.mem
      clear N₁
      repeat' ((fail_if_success (with_reducible show DcP _ _ _ _ _ _ _ _ _ _ _ _ _ _)); k_extra "S0"; k_extra "S1")
      (rename News _ _ _ _ => N9)
      (rename _ ∧ _ => lT)
      have hT1 := AllNe.lt (allLt_right (l := nx) lT.2.2.2.2.2.2.2.2.2.2.2)
      have hT2 := And.intro (Nat.ne_of_gt lT.2.1) (And.intro (Nat.ne_of_gt lT.2.2.1) (Nat.ne_of_gt lT.2.2.2.1))
      clear lT
      (rename _ < _ ∧ _ => lU)
      have hU1 := AllNe.lt (allLt_right (l := nx) lU.2.2.2.2.2.2.2.2.2.2)
      have hU2 := And.intro (Nat.ne_of_gt lU.1) (And.intro (Nat.ne_of_gt lU.2.1) (Nat.ne_of_gt lU.2.2.1))
      (try dsimp only)
      exact dcp_of (by k_asm) N9 (.head _) (.tail _ (.head _)) (by k_extra "MEM") (by k_extra "MEM") (by k_extra "MEM") (by k_extra "OWN") off hT2 hU2 ⟨by rw [take_next ha, stored_new (by rw [hJ.names]; exact nd_take hnd ha)]; exact .snoc hJ, hT1, hU1, hAp⟩
    case fin =>
      intro D oD out nx h tk F₁ N₁ hDo hDlo off hJ
      repeat' (k_extra "S0"; k_extra "S1")
      have e9 : (attKvs as).length = as.length := by simp [attKvs]
      rw [e9, List.take_length] at hJ
      have hO := off1_all off
      (try dsimp only)
      exact post_of ((D, oD) :: nx) _ rfl F₁ N₁ (fun q hq => (List.mem_cons.mp hq).elim (fun z => by rw [z]; exact .head _) (fun z => .tail _ (List.mem_append_left _ z))) (fun q hq _ => .tail _ (List.mem_append_right _ (.tail _ hq))) ⟨⟨AllNe.of fun q hq => hO q (List.mem_append_right _ (.tail _ hq)), Apart.sub hJ.2 (fun _ z => z) fun q hq => .tail _ hq⟩, fun P hP => hP D oD out nx hDo hJ.1 hDlo⟩
  )) only [↓wt]
end
section
open PySem PySem.W PyProof.Rows PySem.Calls
set_option Elab.async false
set_option maxRecDepth 100000 
set_option maxHeartbeats 8000000 
theorem kwC19_0 : True := by
  k_with_none
  k_with "MEM" => first | (with_reducible exact List.mem_cons_self) | ((with_reducible refine List.mem_cons_of_mem _ ?_); k_extra "MEM")
  k_with "ENTER" => (refine' code_defP ?zqk1 ?zqk2 ?zqk3 ?zqk4 ?zqk5 ?zqkA ?zqkF ?zqkK ?zqk6 ?zqk7 ?zqk8 ?zqk9 ?zqkB ?_ ?zqc2 ?zqc3 ?zqc4 ?zqc5; (case zqkA => exact rfl); (case zqkF => exact rfl); (case zqkK => exact rfl); (case zqk1 => k_asm); (case zqk2 => k_asm); (case zqk3 => k_asm); (case zqk4 => k_asm); (case zqk5 => k_asm); (case zqk6 => k_is); (case zqk7 => k_is); (case zqk8 => k_room); (case zqk9 => first | exact BindsTo.of_eq rfl | exact binds_K (by k_in) rfl (by k_is) rfl rfl rfl); (case zqc5 => decide); (case zqkB => exact locs rfl); (case zqc2 => exact rfl); (case zqc3 => exact rfl); (case zqc4 => exact rfl); k_whole; intro g' L' h' Q' FG' F' N' B' X' T' hQ' e9 A9; (try dsimp only); (try k_lift B'); (try k_fold))
  k_with "S0" => ((fail_if_success (with_reducible show Post _ _ _ _ _ _ _ _)); (fail_if_success (with_reducible show LoopP _ _ _ _ _ _ _ _)); (fail_if_success (with_reducible show CmpP _ _ _ _ _ _ _ _ _ _ _ _ _ _ _)))
  k_with "S1" => first | (k_unfold; (try dsimp only)) | (k_end; wrow_close) | walk1 | (with_reducible refine hand (by assumption) ?_; try dsimp only) | (dsimp only; walk1) | (leave1; try dsimp only)
  k_with "ROOM" => first | (refine' room0 ?zqh ?zqe; (case zqh => assumption); (case zqe => exact rfl)) | (refine' room1 ?zqh ?zqe; (case zqh => assumption); (case zqe => exact rfl)) | (refine' room2 ?zqh ?zqe; (case zqh => assumption); (case zqe => exact rfl)) | (refine' room3 ?zqh ?zqe; (case zqh => assumption); (case zqe => exact rfl)) | (refine' roomz ?zqh; (case zqh => assumption)) | ktr_room
  k_with "UNITS" => first | (refine' room0 ?zqh ?zqe; (case zqh => assumption); (case zqe => exact rfl)) | (refine' room1 ?zqh ?zqe; (case zqh => assumption); (case zqe => exact rfl)) | (refine' room2 ?zqh ?zqe; (case zqh => assumption); (case zqe => exact rfl)) | (refine' room3 ?zqh ?zqe; (case zqh => assumption); (case zqe => exact rfl)) | exact lt_num rfl | ktr_units
  k_with "AR" => first | assumption | exact Nat.le_max_right _ _ | exact Nat.le_max_left _ _ | exact Nat.max_lt.mpr ⟨by assumption, by assumption⟩ | (refine' le_up ?zqh ?zqe; (case zqh => assumption); (case zqe => exact rfl)) | omega
  k_with "SUT" => first | exact sub_self | (refine sub_skip ?_; k_extra "SUT")
  k_with "SUK" => first | exact sub_nil | k_extra "SUT" | k_extra "SUB"
  k_with "KEEP" => first | (refine keep_hd (List.Mem.head _) ?_; k_extra "KEEP") | exact keep_of (by k_extra "SUK") | ((with_reducible refine' keep_cons ?zqkm ?_); (case zqkm => k_mem); k_extra "KEEP")
  k_with "APQ" => (rename Apart _ _ => h9; first | exact Apart.at h9 (by k_extra "MEM") (by k_extra "MEM") | exact ap_at h9 (by k_extra "MEM") (by k_extra "MEM") | (clear h9; k_extra "APQ"))
  k_with "ANQ" => (rename AllNe _ _ => h9; first | exact AllNe.at h9 (by k_extra "MEM") | exact an_at h9 (by k_extra "MEM") | (clear h9; k_extra "ANQ"))
  k_with "ALQ" => (rename AllLt _ _ => h9; first | exact lt_ne h9 (by k_extra "MEM") | exact lt_en h9 (by k_extra "MEM") | exact lt_ne2 h9 (by assumption) (by k_extra "MEM") | exact lt_en2 h9 (by assumption) (by k_extra "MEM") | (clear h9; k_extra "ALQ"))
  k_with "NEQ" => first | assumption | exact Ne.symm (by assumption) | exact Nat.ne_of_lt (by assumption) | exact Nat.ne_of_gt (by assumption) | k_extra "ALQ" | k_extra "ANQ" | k_extra "APQ" | omega
  k_with "APS" => (rename Apart _ _ => h9; first | exact Apart.subA h9 rfl (by k_extra "SUK") | (clear h9; k_extra "APS"))
  k_with "NE1" => (refine neN ?_; (try dsimp only); k_extra "NEQ")
  k_with "ALL" => first | exact all_nil | (rename AllLt _ _ => h9; exact lt_sub h9 (by k_extra "SUT")) | (refine' all_cons ?zqa ?zqb; (case zqa => k_ne); (case zqb => k_all))
  k_with "ALN" => first | exact ne_nil | (refine ne_cons ?_ ?_; (focus ((try dsimp only); k_extra "NEQ")); k_extra "ALN")
  k_with "APM" => first | exact ap_nil | k_extra "APS" | (refine ap_cons ?_ ?_; (focus k_extra "ALN"); k_extra "APM")
  k_with "CA" => ((case zqkB => k_asm); (case zqkF => k_asm); (case zqkX => k_asm); (case zqkN => k_asm))
  k_with "CB" => ((case zqkT => k_asm); (case zqkK => first | exact rfl | assumption); (case zqkd => k_extra "ROOM"); (case zqku => k_extra "UNITS"))
  k_with "CE" => all_goals ((try ((with_reducible rename News _ _ _ _ => h9); simp only [List.nil_append, List.cons_append] at h9)); (try ((with_reducible rename Apart [] _ => h7); clear h7)); (try dsimp only [Option.getD_some, Option.getD_none]); (try k_sweep); (try k_fold))
  k_with "CZ" => all_goals ((try dsimp only [Option.getD_some, Option.getD_none]); (try k_sweep); (try k_fold))
  k_with "call builtin:len" => (k_here; (with_reducible show wpAny _ _ (call (Value.builtin "len") [Value.ref _]) _ _ _); k_dflt (refine' len_sym ?zqk1 ?zqk2 ?zqk3 ?_; (case zqk1 => k_asm); (case zqk2 => k_mem); (case zqk3 => k_extra "AR"); k_whole))
  k_with "getMethod ref" => (k_here; (with_reducible show wpAny _ _ (getMethod (Value.ref _) (PySem.Str.ofString "get") _) _ _ _); k_dflt (refine' get_method ?zqk1 ?zqk2 ?zqk3 ?_; (case zqk1 => k_asm); (case zqk2 => k_mem); (case zqk3 => with_reducible assumption); k_whole))
  k_with "call builtin:dict.get" => (k_here; (with_reducible show wpAny _ _ (call (Value.builtin "dict.get") [Value.ref _, Value.str _ _]) _ _ _); k_dflt (refine' get_call ?zqk0 ?zqk1 ?zqk2 ?zqk3 ?_; (case zqk1 => k_asm); (case zqk2 => k_mem); (case zqk3 => with_reducible assumption); (case zqk0 => with_reducible assumption); k_whole))
  k_with "LOCA" => first | exact LocArgs.nil | (refine' LocArgs.cons ?zqlk ?zqld ?zqlv ?zqlt; (case zqlk => kernel_rfl!); (case zqld => kernel_rfl); (case zqlv => first | rfl | assumption); (case zqlt => k_extra "LOCA"))
  k_with "eval Call" => (k_here; (with_reducible show wpAny _ _ (eval (Expr.Call (Expr.Name _ _) (Expr.Name _ _ :: _) [] _) _) _ _ _); first | ((with_reducible refine' callO_loc ?zqF ?zqX ?zqT ?zqe ?zqk ?zqa ?zqb ?zqc ?zql ?_); k_dflt ((case zqF => k_asm); (case zqX => k_asm); (case zqT => k_asm); (case zqa => exact rfl); (case zqb => kernel_rfl!); (case zqc => kernel_rfl); (case zqe => k_is); (case zqk => k_is); (case zql => k_extra "LOCA"); k_whole)) | ((with_reducible refine' callC_loc ?zqF ?zqX ?zqT ?zqe ?zqk ?zqa ?zqb ?zqc ?zql ?_); k_dflt ((case zqF => k_asm); (case zqX => k_asm); (case zqT => k_asm); (case zqa => exact rfl); (case zqb => kernel_rfl!); (case zqc => kernel_rfl); (case zqe => k_is); (case zqk => k_is); (case zql => k_extra "LOCA"); k_whole)))
  k_with "eval Attribute Name" => (k_here; (with_reducible refine' attrO_loc ?zqF ?zqv ?zqa ?zqb ?zqc ?_); k_dflt ((case zqF => k_asm); (case zqa => exact rfl); (case zqb => kernel_rfl!); (case zqc => kernel_rfl); (case zqv => first | rfl | assumption); k_whole))
  k_with "ite" => (k_here; first | (k_closed; first | ((with_reducible refine ite_pos ?zqk2 ?_); k_dflt (case zqk2 => decide)) | ((with_reducible refine ite_neg ?zqk2 ?_); k_dflt (case zqk2 => decide))) | (refine' ite_bf ?zqk1 ?_; (case zqk1 => first | assumption | exact decide_eq_false (by omega) | exact beq_eq_false_iff_ne.mpr (by omega))) | (refine' ite_bt ?zqk1 ?_; (case zqk1 => first | assumption | exact decide_eq_true (by omega) | exact beq_iff_eq.mpr (by omega))))
  k_with "call type:dict" => (k_here; (with_reducible show wpAny _ _ (call (Value.type "dict") [Value.ref _]) _ _ _); k_dflt (refine' dict_copyK ?zqF ?zqN ?zqb ?zqm ?zqD ?zql ?zqz ?_; (case zqF => k_asm); (case zqN => k_asm); (case zqb => exact Top.nolimit (by k_asm)); (case zqm => k_mem); (case zqD => with_reducible assumption); (case zql => with_reducible assumption); (case zqz => omega); k_whole); intro d' h' o' F' N' l1 lo' hd'; (try k_lt l1))
  k_with "eval Name" => (k_here; first | ((with_reducible refine' nameO_L ?zqF ?zqv ?_ ?zqa ?zqb ?zqc); k_dflt ((case zqF => k_asm); (case zqa => exact rfl); (case zqb => kernel_rfl!); (case zqc => kernel_rfl); (case zqv => first | rfl | assumption); k_whole)) | ((with_reducible refine' nameO_K ?zqF ?zqX ?zqT ?zqe ?_ ?zqa ?zqb ?zqc); k_dflt ((case zqF => k_asm); (case zqX => k_asm); (case zqT => k_asm); (case zqa => exact rfl); (case zqb => kernel_rfl!); (case zqc => kernel_rfl); (case zqe => k_is); k_whole)) | ((with_reducible refine' nameC_L ?zqF ?zqv ?_ ?zqa ?zqb ?zqc); k_dflt ((case zqF => k_asm); (case zqa => exact rfl); (case zqb => kernel_rfl!); (case zqc => kernel_rfl); (case zqv => first | rfl | assumption); k_whole)) | ((with_reducible refine' nameC_K ?zqF ?zqX ?zqT ?zqe ?_ ?zqa ?zqb ?zqc); k_dflt ((case zqF => k_asm); (case zqX => k_asm); (case zqT => k_asm); (case zqa => exact rfl); (case zqb => kernel_rfl!); (case zqc => kernel_rfl); (case zqe => k_is); k_whole)))
  trivial
theorem kwC19_1 : True := by
  k_with "exec For Name Name cons nil" => (k_here; (rename Fr _ _ _ _ => lF'); (with_unfolding_all refine' For_invVF lF' ?zqk1 ?zqk2 ?_; (case zqk1 => exact rfl); (case zqk2 => exact rfl); k_whole))
  k_with "exec For Name Subscript cons nil" => (k_here; (rename Fr _ _ _ _ => lF'); (with_unfolding_all refine' For_invVF lF' ?zqk1 ?zqk2 ?_; (case zqk1 => exact rfl); (case zqk2 => exact rfl); k_whole))
  k_with "exec For Name Call cons nil" => (k_here; (rename Fr _ _ _ _ => lF'); (with_unfolding_all refine' For_invVF lF' ?zqk1 ?zqk2 ?_; (case zqk1 => exact rfl); (case zqk2 => exact rfl); k_whole))
  k_with "ALL" => (refine List.forall_mem_append.mpr ⟨?_, ?_⟩; (focus k_all); k_all)
  k_with "SUB" => first | exact sub_nil | ((with_reducible refine' sub_cons ?zqsm ?_); (case zqsm => k_mem); k_extra "SUB") | (refine sub_app ?_ ?_; (focus k_extra "SUB"); k_extra "SUB") | k_extra "SUT" | (intro p9 hp9; repeat' (first | exact hp9 | refine List.mem_cons_of_mem _ ?_ | exact List.mem_append.mpr (Or.inl hp9) | refine List.mem_append.mpr (Or.inr ?_)))
  k_with "OWN" => (intro p9 hp9; repeat' (first | exact hp9 | refine List.mem_cons_of_mem _ ?_ | exact List.mem_append.mpr (Or.inl hp9) | refine List.mem_append.mpr (Or.inr ?_)))
  trivial
theorem rev_list {prog : Program} {w : World} {A : Around} {E : Value → Shared → Prop} {s : Shared} {h₀ : Heap} {L : Addr} {m : Str → Option Value} {news news' : List (Addr × Obj)} {D : Addr} {us : List Value} {n : Nat} {Q : Value → Shared → Prop} (F : Fr h₀ L s.heap m) (N : News h₀ L s.heap news) (U : Upd D (listOf us.toArray n) (listOf us.reverse.toArray n) news news') (hz : us.length ≤ 100000)
    (h : ∀ h', Fr h₀ L h' m → News h₀ L h' news' → Q .none { s with heap := h' }) : wpAny (model prog w) A (call (.builtin "list.reverse") [.ref D]) Q E s :=
  kl_reverse F N (by rfl) U (by rw [List.toList_toArray, sizeLine_eq]; omega) h
theorem kwC19_2 : True := by
  k_with "call builtin:list.reverse" => (k_here; (with_reducible show wpAny _ _ (call (Value.builtin _) [Value.ref _]) _ _ _); k_dflt (refine' rev_list ?zqF ?zqN ?zqU ?zqz ?_; (case zqF => k_asm); (case zqN => k_asm); (case zqU => k_upd); (case zqz => ((rename IntsAre _ (List.take 140 _) => hI9); rw [hI9.length, List.length_take]; omega)); k_whole)); intro h' F' N'; (try k_sweep)
  trivial
theorem cards_tells {w : World} {sl : Addr} {ss : List Value} {ns : List Int} (hI : IntsAre ss ns) (hlen : ns.length ≤ 63) :
    TellsB w 2 786 [.ref sl] (fun h => h.IsList sl ss.toArray) (fun v new => ∃ c n, ∃ us : List Value, ∃ ms, v = .ref c ∧ new = [(c, listOf us.toArray n)] ∧ IntsAre us ms ∧ us.length ≤ 600) := by
  refine wo ?_
  simp (disch :=
  k_dflt (
  refine wk ?_
  refine' tells_base (binds := [(Str.ofString "script", .ref sl)]) ?k0 ?k1 ?k2 ?k3 ?k4 ?k5 ?k6 ?k7 ?k8 ?k9 ?_
  case k0 => exact fun h h' st hb => hb.at fun o e => st _ _ e
  case k1 => k_is
  case k2 => k_is
  case k3 => exact fun s => BindsTo.of_eq rfl
  case k4 => exact locs rfl
  case k5 => decide
  case k6 => rfl
  case k7 => rfl
  case k8 => rfl
  case k9 => decide
  intro p loose mean mg mb dp un gd cn cs L a ccd cl outer base g L' s hsl B F K N T hdp hun
  (try dsimp only)
  repeat' ((fail_if_success (with_reducible show wpAny _ _ (pyIter (Value.ref _)) _ _ _)); k_extra "S0"; k_extra "S1")
  rename_i cl hA l1a hB D ws hC FF NN hI9 hC9 hL9 l1b
  have hwl : ws.length ≤ 50 := by rw [hI9.length, hC9]; omega
  have hDc : @Ne Nat D cl := Nat.ne_of_gt l1b.1
  refine' loop_list [(D, listOf ws.toArray 0), (cl, listOf ([] : List Value).toArray 0)] (fun i m nx => m (Str.ofString "cards") = some (.ref cl) ∧ ∃ us ms n, IntsAre us ms ∧ us.length ≤ 12 * i ∧ nx = [(D, listOf ws.toArray 0), (cl, listOf us.toArray n)]) ?hh ?hJ ?F ?N ?s ?j ?turn ?done
  case hh => rfl
  case hJ => rintro i m nx ⟨_, us, ms, n, _, _, rfl⟩; exact .head _
  case F => k_asm
  case N => k_asm
  case s => k_extra "SUB"
  case j => exact ⟨rfl, [], [], _, .nil, Nat.le_refl _, rfl⟩
  case turn =>
    intro i v m₁ nx h tk own hv ho hJ F₁ N₁
    obtain ⟨hm1, us, ms, n, hIu, hul, rfl⟩ := hJ
    have hi : i < ws.length := (List.getElem?_eq_some_iff.mp hv).1
    have hi2 : i < 50 := by omega
    obtain ⟨t, e⟩ := ints_range hI9 (j := i) (by rw [← hI9.length]; exact hi)
    rw [hv] at e
    generalize (List.take 50 ns).getD i 0 = cell at e
    cases e
    clear hv
    repeat' ((fail_if_success (with_reducible show wpAny _ _ (pyIter (Value.ref _)) _ _ _)); k_extra "S0"; k_extra "S1")
    · refine' loop_range (n := 12) ((D, listOf ws.toArray 0) :: (cl, listOf us.toArray n) :: own) (fun j m nx => m (Str.ofString "cards") = some (.ref cl) ∧ (∃ dk t, m (Str.ofString "deck") = some (.int dk t)) ∧ ∃ us ms n, IntsAre us ms ∧ us.length ≤ 12 * i + j ∧ nx = (D, listOf ws.toArray 0) :: (cl, listOf us.toArray n) :: own) ?hha ?hra ?hsa ?hza ?Fa ?Na ?sa ?ja ?turna ?donea
      case hha => rfl
      case hra => assumption
      case hsa => exact rng_small (by omega) (by omega)
      case hza => rfl
      case Fa => k_asm
      case Na => k_asm
      case sa => exact fun p hp => by simpa using hp
      case ja => exact ⟨hm1, ⟨_, _, rfl⟩, us, ms, n, hIu, by omega, rfl⟩
      case turna =>
        intro j t m₁ nx h tk own2 hj ho2 hJ F₁ N₁
        obtain ⟨hm1, ⟨dk, tdk, hm2⟩, us, ms, n, hIu, hul, rfl⟩ := hJ
        repeat' (k_extra "S0"; k_extra "S1")
        · (try dsimp only)
          refine loopP_brk ?_
          (try dsimp only)
          repeat' (k_extra "S0"; k_extra "S1")
          (try dsimp only); (rename News _ _ _ _ => N9); (simp only [List.push_toArray] at N9); ((try dsimp only); refine' loopP_next (nx := [(D, _), (cl, _)]) ?e ?F ?N ?J ?A ?q1 ?q2; (case e => first | exact .inl rfl | exact .inr rfl); (case F => k_asm); (case N => k_asm); (case q1 => k_extra "SUB"); (case J => exact ⟨hm1, _, _, _, hIu.append (.cons _ _ .nil), (by rw [List.length_append, List.length_singleton]; omega), rfl⟩); (case A => exact ho); (case q2 => k_extra "OWN"))
        · (try dsimp only); (rename News _ _ _ _ => N9); (simp only [List.push_toArray] at N9); ((try dsimp only); refine' loopP_next (nx := (D, _) :: (cl, _) :: own) ?e ?F ?N ?J ?A ?q1 ?q2; (case e => first | exact .inl rfl | exact .inr rfl); (case F => k_asm); (case N => k_asm); (case q1 => k_extra "SUB"); (case J => exact ⟨hm1, ⟨_, _, rfl⟩, _, _, _, hIu.append (.cons _ _ .nil), (by rw [List.length_append, List.length_singleton]; omega), rfl⟩); (case A => exact ho2); (case q2 => k_extra "OWN"))
      case donea =>
        intro m₁ nx h tk hJ F₁ N₁
        obtain ⟨hm1, ⟨dk, tdk, hm2⟩, us, ms, n, hIu, hul, rfl⟩ := hJ
        repeat' (k_extra "S0"; k_extra "S1")
        ((try dsimp only); refine' loopP_next (nx := [(D, _), (cl, _)]) ?e ?F ?N ?J ?A ?q1 ?q2; (case e => first | exact .inl rfl | exact .inr rfl); (case F => k_asm); (case N => k_asm); (case q1 => k_extra "SUB"); (case J => exact ⟨hm1, _, _, _, hIu, (by omega), rfl⟩); (case A => exact ho); (case q2 => k_extra "OWN"))
    · refine' loop_range (n := 12) ((D, listOf ws.toArray 0) :: (cl, listOf us.toArray n) :: own) (fun j m nx => m (Str.ofString "cards") = some (.ref cl) ∧ (∃ dk t, m (Str.ofString "deck") = some (.int dk t)) ∧ ∃ us ms n, IntsAre us ms ∧ us.length ≤ 12 * i + j ∧ nx = (D, listOf ws.toArray 0) :: (cl, listOf us.toArray n) :: own) ?hhb ?hrb ?hsb ?hzb ?Fb ?Nb ?sb ?jb ?turnb ?doneb
      case hhb => rfl
      case hrb => assumption
      case hsb => exact rng_small (by omega) (by omega)
      case hzb => rfl
      case Fb => k_asm
      case Nb => k_asm
      case sb => exact fun p hp => by simpa using hp
      case jb => exact ⟨hm1, ⟨_, _, rfl⟩, us, ms, n, hIu, by omega, rfl⟩
      case turnb =>
        intro j t m₁ nx h tk own2 hj ho2 hJ F₁ N₁
        obtain ⟨hm1, ⟨dk, tdk, hm2⟩, us, ms, n, hIu, hul, rfl⟩ := hJ
        repeat' (k_extra "S0"; k_extra "S1")
        · (try dsimp only)
          refine loopP_brk ?_
          (try dsimp only)
          repeat' (k_extra "S0"; k_extra "S1")
          (try dsimp only); (rename News _ _ _ _ => N9); (simp only [List.push_toArray] at N9); ((try dsimp only); refine' loopP_next (nx := [(D, _), (cl, _)]) ?e ?F ?N ?J ?A ?q1 ?q2; (case e => first | exact .inl rfl | exact .inr rfl); (case F => k_asm); (case N => k_asm); (case q1 => k_extra "SUB"); (case J => exact ⟨hm1, _, _, _, hIu.append (.cons _ _ .nil), (by rw [List.length_append, List.length_singleton]; omega), rfl⟩); (case A => exact ho); (case q2 => k_extra "OWN"))
        · (try dsimp only); (rename News _ _ _ _ => N9); (simp only [List.push_toArray] at N9); ((try dsimp only); refine' loopP_next (nx := (D, _) :: (cl, _) :: own) ?e ?F ?N ?J ?A ?q1 ?q2; (case e => first | exact .inl rfl | exact .inr rfl); (case F => k_asm); (case N => k_asm); (case q1 => k_extra "SUB"); (case J => exact ⟨hm1, ⟨_, _, rfl⟩, _, _, _, hIu.append (.cons _ _ .nil), (by rw [List.length_append, List.length_singleton]; omega), rfl⟩); (case A => exact ho2); (case q2 => k_extra "OWN"))
      case doneb =>
        intro m₁ nx h tk hJ F₁ N₁
        obtain ⟨hm1, ⟨dk, tdk, hm2⟩, us, ms, n, hIu, hul, rfl⟩ := hJ
        repeat' (k_extra "S0"; k_extra "S1")
        ((try dsimp only); refine' loopP_next (nx := [(D, _), (cl, _)]) ?e ?F ?N ?J ?A ?q1 ?q2; (case e => first | exact .inl rfl | exact .inr rfl); (case F => k_asm); (case N => k_asm); (case q1 => k_extra "SUB"); (case J => exact ⟨hm1, _, _, _, hIu, (by omega), rfl⟩); (case A => exact ho); (case q2 => k_extra "OWN"))
  case done =>
    intro m₁ nx h tk hJ F₁ N₁
    obtain ⟨hm1, us, ms, n, hIu, hul, rfl⟩ := hJ
    repeat' (k_extra "S0"; k_extra "S1")
    (rename IntsAre _ (List.take 140 _) => I9)
    ((try dsimp only); exact post_of _ _ rfl (by k_asm) (by k_asm) (by k_extra "SUB") (by k_extra "KEEP") (⟨_, _, _, _, rfl, rfl, I9.reverse, by rw [List.length_reverse, I9.length, List.length_take]; omega⟩))
  )) only [↓wt]
end
section
open PySem PySem.W PyProof.Rows PySem.Calls PySem.Spec
set_option maxRecDepth 100000
/-- the law's def in the claim's text -/
def lawDef : Option Stmt := PySem.Challenge.pw_pq1344_01.main.body.getLast?
def lawBody : List Stmt := match lawDef with
  | some (.FunctionDef _ _ body _ _ _ _ _ _ _) => body
  | _ => []
def lawScope : Scope := match lawDef with
  | some (.FunctionDef _ _ _ _ _ _ scope _ _ _) => scope
  | _ => default
def lawAt (k : Nat) : Stmt := lawBody.getD k (.Pass ⟨0, 0, 0, 0⟩)
def lawFor : List Stmt := match lawAt 14 with
  | .For _ _ body _ _ => body
  | _ => []
/-- by a contract within which an exception is caught -/
theorem tells0_call {w : World} {d : Nat} {f : Addr} {args : List Value} {pre : List (Addr × Obj)} {R : Value → List (Addr × Obj) → Prop}
    {p : Program} {loose : List Str} {mean : ExcName → Option Value} {mg mb : Str → Option Value} {dp un : Nat} {gd : Option (List Code)} {cn : Str} {cs : Scope} {a : Addr} {ccd : Value} {cl : List (Str × Addr)} {A₀ : Around} {base h₀ : Heap} {L : Addr} {m : Str → Option Value} {s : Shared} {Q E : Value → Shared → Prop} {news : List (Addr × Obj)}
    (C : Tells0 w d f args pre R) (hRn : ∀ r new, R r new → Apart new pre) (B : Below A₀ base [] h₀) (F : Fr h₀ L s.heap m) (X : (fragK.heap_1 w.params).In h₀) (XB : (fragK.heap_1 w.params).In base) (N : News h₀ L s.heap news) (hs : ∀ q ∈ pre, q ∈ news) (T : Top p loose mean mg mb h₀) (TB : Top p loose mean mg mb base) (hk : cs.kind = .function) (hdp : dp + d < recursionLimit) (hun : un + 8 * d < cLine)
    (ret : ∀ r h' tk' new, Fr h₀ L h' m → News h₀ L h' (new ++ news) → Apart new news → R r new → Q r { s with heap := h', toks := tk' }) :
    wpAny (model PySem.Challenge.rw_pq1344_01.row.prog w) (ktrTop dp un gd cn cs L a ccd cl []) (call (.ref f) args) Q E s :=
  C p loose mean mg mb dp un gd cn cs a ccd cl A₀ base h₀ L m s Q E B F X XB (fun q hq => N q (hs q hq)) T TB hk hdp hun fun r h' tk' new F' N' X' Y' hR =>
    ret r h' tk' new F' (news_app N' fun q hq => ⟨X' _ _ (N q hq).2.1 (N q hq).1, (N q hq).2⟩) (Apart.of fun q hq => fresh_ne N (Y' q hq fun hm => by
      obtain ⟨p, hp, e⟩ := List.mem_map.mp hm
      exact (hRn r new hR).all q hq p hp e)) hR
/-- to go on from what may be drawn of a piece's end -/
theorem drawn {M : Model} {A : Around} {t : Sem Flow} {E : Value → Shared → Prop} {s : Shared} {Q : Flow → Shared → Prop} {K : (Flow → Shared → Prop) → Prop} (hw : wpAny M A t (fun fl s' => ∀ P : Flow → Shared → Prop, K P → P fl s') E s) (k : K Q) : wpAny M A t Q E s :=
  wpAny_mono hw (fun _ _ h => h Q k) (fun _ _ e => e)
/-- what the dress's statements hand on -/
def Wears (w : World) (h₀ : Heap) (L : Addr) (m : Str → Option Value) (s₀ : Shared) (c da : Addr) (fixed : List (Addr × Obj)) (ok : List Att → Prop) (fl : Flow) (s' : Shared) : Prop :=
  ∀ P : Flow → Shared → Prop, (∀ h tk o us ms n as, Fr h₀ L h m → News h₀ L h ((da, o) :: (c, listOf us.toArray n) :: (fixed ++ attLed w as)) → o.IsDictOf (strKind PySem.Challenge.rw_pq1344_01.row.prog w) (attKvs as) → IntsAre us ms → us.length ≤ 600 → ok as → AllNe da ((c, listOf us.toArray n) :: (fixed ++ attLed w as)) → AllNe c (fixed ++ attLed w as) → (∀ q ∈ attLed w as, ∀ p ∈ fixed, p.1 ≠ q.1) → P .next { s₀ with heap := h, toks := tk }) → P fl s'
/-- items that are none, truths, small numbers or texts -/
def Plain (us : List Value) : Prop := ∀ u ∈ us, ∃ i, Okv i u
def Ok4 (as : List Att) : Prop := as = [] ∨ ∃ a, as = [a] ∧ Plain a.us ∧ ((a.nm = Str.ofString "dim" ∧ a.us.length = 2) ∨ (a.nm = Str.ofString "names" ∧ a.us.length ≤ 600))
def OkN (k : Str) (ok : List Att → Prop) (as : List Att) : Prop := ok as ∨ ∃ b a, as = b ++ [a] ∧ ok b ∧ a.nm = k ∧ Plain a.us ∧ a.us.length = 1
theorem attLed_snoc {w : World} {as : List Att} {a : Att} {P : Addr × Obj → Prop} (h : ∀ p ∈ attLed w as, P p) (h1 : P (a.x, instObj 113 a.d)) (h2 : P (a.d, dictOf (vd w.params a.t1 a.t2 a.t3 a.t4 a.t5 (.str a.kd a.kt) (.ref a.l) a.av a.sh a.lo) a.n1)) (h3 : P (a.l, listOf a.us.toArray a.n2)) : ∀ p ∈ attLed w (as ++ [a]), P p := by
  intro p hp
  rw [attLed, List.flatMap_append] at hp
  rcases List.mem_append.mp hp with hp | hp
  · exact h p hp
  · simp only [List.flatMap_cons, List.flatMap_nil, List.append_nil, Att.led] at hp
    rcases List.mem_cons.mp hp with rfl | hp
    · exact h1
    rcases List.mem_cons.mp hp with rfl | hp
    · exact h2
    rcases List.mem_cons.mp hp with rfl | hp
    · exact h3
    cases hp
end
section
open PySem PySem.W PyProof.Rows PySem.Calls PySem.Spec
open PySem.AutoSeq1 (wpAny_loadPart')
set_option maxRecDepth 100000
def EqW (prog : Program) (w : World) (A : Around) (s : Shared) (y x : Value) : Prop :=
  ∀ (E : Value → Shared → Prop) (Q : Bool → Shared → Prop), Q true s → wpAny (model prog w) A (eqBool y x) Q E s
theorem ne_tup {prog : Program} {w : World} {A : Around} {E : Value → Shared → Prop} {s : Shared} {l b : Addr} {items items2 : Array Value} {Q : Value → Shared → Prop} (hl : s.heap.IsTuple l items) (hb : s.heap.IsTuple b items2) (hsz : items.size = items2.size) (hu : A.units < cLine)
    (he : ∀ p ∈ items.toList.zip items2.toList, EqW prog w A.in1 s p.1 p.2) (h : Q (.bool false) s) : wpAny (model prog w) A (compareOp .NotEq (.ref l) (.ref b)) Q E s := by
  refine wo ?_
  simp (disch :=
  k_dflt (
  refine wk ?_
  obtain ⟨⟨cls, dd, data, sl⟩, ho, hc, n, hd⟩ := id hl
  obtain ⟨⟨cls2, dd2, data2, sl2⟩, ho2, hc2, n2, hd2⟩ := id hb
  simp only at hc hd hc2 hd2
  subst hc hd hc2 hd2
  refine wpAny_richCompare_same_room (op := .NotEq) ⟨_, ho, rfl⟩ ⟨_, ho2, rfl⟩ F.slot_tuple_ne (wpAny_call_entry F.slot_tuple_ne ⟨_, ho, rfl⟩ F.entry_tuple_ne ?_ (F.args_tuple_ne_2 _ _)) hu
  obtain ⟨hp, g, d, tk, os⟩ := s
  have f2 := AutoSeq1.sub_tuple_tuple
  wp_walk using wpAny_loadPart' ho, wpAny_loadPart' ho2, wpAny_forIn_list _ (fun rest b s' => b.1 = none ∧ s' = ⟨hp, g, d, tk, os⟩ ∧ ∀ p ∈ rest, EqW prog w A.in1 ⟨hp, g, d, tk, os⟩ p.1 p.2) _
  case turn =>
    rintro ⟨y, x⟩ rest b s' ⟨hb', rfl, hz⟩
    refine wpAny_bind (hz (y, x) (.head _) _ _ ?_)
    wp_walk
    exact ⟨rfl, rfl, fun p hp => hz p (.tail _ hp)⟩
  case fin =>
    rintro ⟨b1, b2⟩ s' ⟨hb', rfl, hz⟩
    simp only at hb'
    subst hb'
    wp_walk
    have e9 : Builtin.Tuple.tupleCompareSizes CmpOp.NotEq items.size items2.size = .bool false := by simp [Builtin.Tuple.tupleCompareSizes, bne, hsz]
    rw [e9]
    exact ⟨_, rfl, (fun z => nomatch z), h⟩
  case h =>
    exact ⟨rfl, rfl, he⟩
  )) only [↓wt]
theorem EqW.at {prog : Program} {w : World} {A : Around} {s : Shared} {y x : Value} (h : SeqAt.EqAt A s y x true) : EqW prog w A s y x := fun E Q hq => h prog w E Q hq
theorem EqW.of_refs {prog : Program} {w : World} {A : Around} {s : Shared} {l b : Addr} (hne : l ≠ b) (h : ∀ (E Q : Value → Shared → Prop), Q (.bool true) s → wpAny (model prog w) A (richCompare .Eq (.ref l) (.ref b)) Q E s) : EqW prog w A s (.ref l) (.ref b) := fun E Q hq => by
  unfold eqBool
  refine wpAny_holding ?_
  refine wpAny_ite_split (fun hab => absurd (by have := eq_of_beq hab; injection this) hne) (fun _ => ?_)
  exact wpAny_bind (h E _ (wpAny_truthy_bool hq))
/-- two plain values with the same data -/
def SameV (u v : Value) : Prop := (∃ i, Okv i u) ∧ (∃ i, Okv i v) ∧ dat u = dat v
def SameL (us vs : List Value) : Prop := us.length = vs.length ∧ ∀ j, j < us.length → SameV (us.getD j .none) (vs.getD j .none)
theorem SameV.at {A : Around} {s : Shared} {u v : Value} (h : SameV u v) : SeqAt.EqAt A s u v true := by
  refine wo ?_
  simp (disch :=
  k_dflt (
  refine wk ?_
  obtain ⟨⟨i, hu⟩, ⟨k, hv⟩, he⟩ := h
  cases u with
  | none =>
    cases v with
    | none => exact SeqAt.EqAt.same _
    | int _ _ => exact nomatch he
    | str _ _ => exact nomatch he
    | _ => exact hv.elim
  | int a t =>
    cases v with
    | none => exact nomatch he
    | int b u =>
      have e : a = b := by injection he
      subst e
      have x := SeqAt.EqAt.int_int (A := A) (s := s) a t a u
      rw [beq_self_eq_true] at x
      exact x
    | str _ _ => exact nomatch he
    | _ => exact hv.elim
  | str a t =>
    cases v with
    | none => exact nomatch he
    | int _ _ => exact nomatch he
    | str b u =>
      have e : a = b := by injection he
      subst e
      have x := SeqAt.EqAt.str_str (A := A) (s := s) a t a u
      rw [beq_self_eq_true] at x
      exact x
    | _ => exact hv.elim
  | _ => exact hu.elim
  )) only [↓wt]
theorem SameL.each {A : Around} {s : Shared} {us vs : List Value} (h : SameL us vs) : ∀ j (h1 : j < us.toArray.size) (h2 : j < vs.toArray.size), SeqAt.EqAt A s us.toArray[j] vs.toArray[j] true := by
  intro j h1 h2
  have h1' : j < us.length := by simpa using h1
  have h2' : j < vs.length := by simpa using h2
  have x := (h.2 j h1').at (A := A) (s := s)
  rw [List.getD_eq_getElem?_getD, List.getD_eq_getElem?_getD, List.getElem?_eq_getElem h1', List.getElem?_eq_getElem h2'] at x
  simpa using x
theorem all_true (n : Nat) : (List.range n).all (fun _ => true) = true := by simp
theorem eqAt_list {A : Around} {s : Shared} {a b : Addr} {us vs : List Value} (ha : s.heap.IsList a us.toArray) (hb : s.heap.IsList b vs.toArray) (h : SameL us vs) (hu : A.units < cLine) : SeqAt.EqAt A s (.ref a) (.ref b) true := by
  rcases Nat.decEq a b with hne | rfl
  · have x := SeqAt.RcAt.lists (e := fun _ => true) ha hb (by simpa using h.1) hu h.each
    rw [all_true] at x
    exact SeqAt.EqAt.of_refs hne x
  · exact SeqAt.EqAt.same _
theorem eqAt_str {A : Around} {s : Shared} {x : Str} {t u : Tok} : SeqAt.EqAt A s (.str x t) (.str x u) true := by
  have q := SeqAt.EqAt.str_str (A := A) (s := s) x t x u
  rw [beq_self_eq_true] at q
  exact q
theorem pair_each {A : Around} {s : Shared} {x : Str} {t u : Tok} {a b : Value} (h : SeqAt.EqAt A s a b true) : ∀ j (h1 : j < (#[Value.str x t, a]).size) (h2 : j < (#[Value.str x u, b]).size), SeqAt.EqAt A s #[Value.str x t, a][j] #[Value.str x u, b][j] true := by
  intro j h1 h2
  match j, h1, h2 with
  | 0, _, _ => exact eqAt_str
  | 1, _, _ => exact h
theorem eqAt_pair {A : Around} {s : Shared} {a b l k : Addr} {x : Str} {t u : Tok} {us vs : List Value} (ha : s.heap.IsTuple a #[.str x t, .ref l]) (hb : s.heap.IsTuple b #[.str x u, .ref k]) (hl : s.heap.IsList l us.toArray) (hk : s.heap.IsList k vs.toArray) (h : SameL us vs) (hu : A.units + 1 < cLine) : SeqAt.EqAt A s (.ref a) (.ref b) true := by
  rcases Nat.decEq a b with hne | rfl
  · have x := SeqAt.RcAt.tuples (A := A) (e := fun _ => true) ha hb (by omega) (pair_each (eqAt_list hl hk h (by show A.units + 1 < cLine; omega)))
    exact SeqAt.EqAt.of_refs hne x
  · exact SeqAt.EqAt.same _
section
variable {w : World} {prog : Program} {A : Around} {s : Shared} {h₀ : Heap} {L : Addr} {news : List (Addr × Obj)} {E Q : Value → Shared → Prop}
theorem tup_at {a : Addr} {vs : Array Value} {n : Nat} (N : News h₀ L s.heap news) (hm : (a, { cls := .type "tuple", data := .seq vs n }) ∈ news) : s.heap.IsTuple a vs := ⟨_, (N _ hm).1, rfl, n, rfl⟩
theorem lst_at {a : Addr} {us : List Value} {n : Nat} (N : News h₀ L s.heap news) (hm : (a, listOf us.toArray n) ∈ news) : s.heap.IsList a us.toArray := ⟨_, (N _ hm).1, rfl, n, rfl⟩
theorem ne_lists {a b : Addr} {us vs : List Value} {n k : Nat} (N : News h₀ L s.heap news) (ha : (a, listOf us.toArray n) ∈ news) (hb : (b, listOf vs.toArray k) ∈ news) (h : SameL us vs) (hu : A.units + 4 < cLine) (hq : Q (.bool false) s) :
    wpAny (model prog w) A (compareOp .NotEq (.ref a) (.ref b)) Q E s := by
  have x := SeqAt.RcNeAt.lists (A := A) (e := fun _ => true) (lst_at N ha) (lst_at N hb) (by simpa using h.1) (by omega) h.each
  rw [all_true] at x
  exact x prog w E Q hq
theorem eq_lists_len {a b : Addr} {us vs : List Value} {n k : Nat} (N : News h₀ L s.heap news) (ha : (a, listOf us.toArray n) ∈ news) (hb : (b, listOf vs.toArray k) ∈ news) (h : us.length ≠ vs.length) (hu : A.units + 4 < cLine) (hq : Q (.bool false) s) :
    wpAny (model prog w) A (compareOp .Eq (.ref a) (.ref b)) Q E s :=
  SeqAt.eq_list_lengthsAt (lst_at N ha) (lst_at N hb) (by simpa using h) (by omega) hq
theorem eq_lists {a b : Addr} {us vs : List Value} {n k : Nat} (N : News h₀ L s.heap news) (ha : (a, listOf us.toArray n) ∈ news) (hb : (b, listOf vs.toArray k) ∈ news) (h : SameL us vs) (hu : A.units + 4 < cLine) (hq : Q (.bool true) s) :
    wpAny (model prog w) A (compareOp .Eq (.ref a) (.ref b)) Q E s :=
  SeqAt.eq_listAt (e := fun _ => true) (lst_at N ha) (lst_at N hb) (by simpa using h.1) (by omega) h.each (by rw [all_true]; exact hq)
theorem ne_pairs {a b l k : Addr} {x : Str} {t u : Tok} {us vs : List Value} {n1 n2 n3 n4 : Nat} (N : News h₀ L s.heap news) (ha : (a, { cls := .type "tuple", data := .seq #[.str x t, .ref l] n1 }) ∈ news) (hb : (b, { cls := .type "tuple", data := .seq #[.str x u, .ref k] n2 }) ∈ news) (hl : (l, listOf us.toArray n3) ∈ news) (hk : (k, listOf vs.toArray n4) ∈ news) (h : SameL us vs) (hu : A.units + 4 < cLine) (hq : Q (.bool false) s) :
    wpAny (model prog w) A (compareOp .NotEq (.ref a) (.ref b)) Q E s :=
  SeqAt.RcNeAt.tuples (A := A) (e := fun _ => true) (tup_at N ha) (tup_at N hb) (by omega) (pair_each (eqAt_list (lst_at N hl) (lst_at N hk) h (by show A.units + 1 < cLine; omega))) prog w E Q hq
/-- each attribute seen -/
theorem SeenR.each {as : List Att} {out : List (Str × Value)} {nx : List (Addr × Obj)} (h : SeenR as out nx) : ∀ p ∈ out, ∃ a ∈ as, ∃ T l kt n0 n', p = (a.nm, .ref T) ∧ (T, { cls := .type "tuple", data := .seq #[.str a.kd kt, .ref l] n0 }) ∈ nx ∧ (l, listOf a.us.toArray n') ∈ nx := by
  induction h with
  | nil => intro p hp; cases hp
  | snoc _ ih =>
    intro p hp
    rcases List.mem_append.mp hp with hp | hp
    · obtain ⟨a, ha, T, l, kt, n0, n', e, h1, h2⟩ := ih p hp
      exact ⟨a, List.mem_append_left _ ha, T, l, kt, n0, n', e, .tail _ (.tail _ h1), .tail _ (.tail _ h2)⟩
    · rw [List.mem_singleton] at hp
      subst hp
      exact ⟨_, List.mem_append_right _ (.head _), _, _, _, _, _, rfl, .head _, .tail _ (.head _)⟩
theorem value_nd : ∀ {kvs : List (Str × Value)} {k : Str} {v : Value}, (kvs.map (·.1)).Nodup → (k, v) ∈ kvs → valueAt kvs k = some v
  | [], _, _, _, h => nomatch h
  | (k', v') :: r, k, v, hn, h => by
    simp only [List.map_cons, List.nodup_cons] at hn
    rcases List.mem_cons.mp h with e | h
    · obtain ⟨rfl, rfl⟩ := Prod.mk.inj e
      simp [valueAt]
    · have hne : k' ≠ k := fun e => hn.1 (by rw [e]; exact List.mem_map.mpr ⟨_, h, rfl⟩)
      have := value_nd hn.2 h
      simp only [valueAt, List.find?_cons] at this ⊢
      rw [decide_eq_false hne]
      exact this
theorem att_nm {as : List Att} (hnd : (as.map (·.nm)).Nodup) {a b : Att} (ha : a ∈ as) (hb : b ∈ as) (e : a.nm = b.nm) : a = b := by
  refine wo ?_
  simp (disch :=
  k_dflt (
  refine wk ?_
  induction as with
  | nil => cases ha
  | cons c r ih =>
    simp only [List.map_cons, List.nodup_cons] at hnd
    rcases List.mem_cons.mp ha with ea | ha'
    · rcases List.mem_cons.mp hb with eb | hb'
      · rw [ea, eb]
      · exact absurd (show b.nm ∈ r.map (fun x => x.nm) from List.mem_map.mpr ⟨b, hb', rfl⟩) (by rw [← e, ea]; exact hnd.1)
    · rcases List.mem_cons.mp hb with eb | hb'
      · exact absurd (show a.nm ∈ r.map (fun x => x.nm) from List.mem_map.mpr ⟨a, ha', rfl⟩) (by rw [e, eb]; exact hnd.1)
      · exact ih hnd.2 ha' hb'
  )) only [↓wt]
theorem SameL.same {us : List Value} (h : ∀ u ∈ us, ∃ i, Okv i u) : SameL us us := ⟨rfl, fun j hj => by
  have hm : us.getD j .none ∈ us := by
    rw [List.getD_eq_getElem?_getD, List.getElem?_eq_getElem hj]; exact List.getElem_mem hj
  exact ⟨h _ hm, h _ hm, rfl⟩⟩
theorem seen_hits {as : List Att} {out out' : List (Str × Value)} {nx nx' : List (Addr × Obj)} (N : News h₀ L s.heap news) (hnd : (as.map (·.nm)).Nodup) (hpl : ∀ a ∈ as, ∀ u ∈ a.us, ∃ i, Okv i u) (h : SeenR as out nx) (h' : SeenR as out' nx') (hx : ∀ q ∈ nx, q ∈ news) (hx' : ∀ q ∈ nx', q ∈ news) (hu : A.units + 1 < cLine) : KeqHits A s out' out true := by
  refine wo ?_
  simp (disch :=
  k_dflt (
  refine wk ?_
  suffices H : ∀ l : List (Str × Value), (∀ p ∈ l, p ∈ out) → KeqHits A s out' l true from H out fun _ z => z
  intro l
  induction l with
  | nil => intro _; exact .nil
  | cons p r ih =>
    intro hs
    obtain ⟨a, ha, T, l, kt, n0, n', rfl, h1, h2⟩ := h.each p (hs _ (.head _))
    have hm : a.nm ∈ out'.map (·.1) := by rw [h'.names]; exact List.mem_map.mpr ⟨a, ha, rfl⟩
    obtain ⟨p', hp', e⟩ := List.mem_map.mp hm
    obtain ⟨b, hb, T', l', kt', n0', n'', rfl, h1', h2'⟩ := h'.each p' hp'
    have eb : b = a := att_nm hnd hb ha e
    subst eb
    have hv := value_nd (by rw [h'.names]; exact hnd) hp'
    have x := KeqHits.hit (A := A) (s := s) hv (eqAt_pair (tup_at N (hx _ h1)) (tup_at N (hx' _ h1')) (lst_at N (hx _ h2)) (lst_at N (hx' _ h2')) (SameL.same (hpl _ hb)) hu) (ih fun q hq => hs q (.tail _ hq))
    exact x
  )) only [↓wt]
theorem eqAt_seen {as : List Att} {out out' : List (Str × Value)} {nx nx' : List (Addr × Obj)} {D D' : Addr} {oD oD' : Obj} (N : News h₀ L s.heap news) (hnd : (as.map (·.nm)).Nodup) (hpl : ∀ a ∈ as, ∀ u ∈ a.us, ∃ i, Okv i u) (h : SeenR as out nx) (h' : SeenR as out' nx') (hx : ∀ q ∈ nx, q ∈ news) (hx' : ∀ q ∈ nx', q ∈ news) (hD : (D, oD) ∈ news) (hD' : (D', oD') ∈ news) (dD : oD.IsDictOf (strKind prog w) out) (dD' : oD'.IsDictOf (strKind prog w) out') (lD : (D == sysModules) = false) (lD' : (D' == sysModules) = false) (hu : A.units + 2 < cLine) : EqW prog w A s (.ref D) (.ref D') := by
  rcases Nat.decEq D D' with hne | rfl
  · refine EqW.of_refs hne fun E Q hq => ?_
    have e1 : out.length = out'.length := by rw [h.length, h'.length]
    exact keq_pairs (knd := strKind prog w) (r := true) N hD hD' dD dD' lD lD' e1 (by omega) (seen_hits N hnd hpl h h' hx hx' (by show A.units + 1 + 1 < cLine; omega)) hq
  · exact EqW.at (SeqAt.EqAt.same _)
theorem ne_trips {as : List Att} {out out' : List (Str × Value)} {nx nx' : List (Addr × Obj)} {D D' : Addr} {oD oD' : Obj} {a b l k : Addr} {x : Str} {t u : Tok} {us vs : List Value} {n1 n2 n3 n4 : Nat} (N : News h₀ L s.heap news) (hnd : (as.map (·.nm)).Nodup) (hpl : ∀ a ∈ as, ∀ u ∈ a.us, ∃ i, Okv i u) (h : SeenR as out nx) (h' : SeenR as out' nx') (hx : ∀ q ∈ nx, q ∈ news) (hx' : ∀ q ∈ nx', q ∈ news) (hD : (D, oD) ∈ news) (hD' : (D', oD') ∈ news) (dD : oD.IsDictOf (strKind prog w) out) (dD' : oD'.IsDictOf (strKind prog w) out') (lD : (D == sysModules) = false) (lD' : (D' == sysModules) = false)
    (ha : (a, { cls := .type "tuple", data := .seq #[.str x t, .ref l, .ref D] n1 }) ∈ news) (hb : (b, { cls := .type "tuple", data := .seq #[.str x u, .ref k, .ref D'] n2 }) ∈ news) (hl : (l, listOf us.toArray n3) ∈ news) (hk : (k, listOf vs.toArray n4) ∈ news) (hs : SameL us vs) (hu : A.units + 4 < cLine) (hq : Q (.bool false) s) :
    wpAny (model prog w) A (compareOp .NotEq (.ref a) (.ref b)) Q E s :=
  ne_tup (tup_at N ha) (tup_at N hb) rfl (by omega) (fun p hp => by
    have e1 : EqW prog w A.in1 s (.str x t) (.str x u) := EqW.at eqAt_str
    have e2 : EqW prog w A.in1 s (.ref l) (.ref k) := EqW.at (eqAt_list (lst_at N hl) (lst_at N hk) hs (by show A.units + 1 < cLine; omega))
    have e3 : EqW prog w A.in1 s (.ref D) (.ref D') := eqAt_seen N hnd hpl h h' hx hx' hD hD' dD dD' lD lD' (by show A.units + 1 + 2 < cLine; omega)
    have hp' : p ∈ [(Value.str x t, Value.str x u), (.ref l, .ref k), (.ref D, .ref D')] := hp
    rcases List.mem_cons.mp hp' with rfl | hp
    · exact e1
    rcases List.mem_cons.mp hp with rfl | hp
    · exact e2
    rcases List.mem_cons.mp hp with rfl | hp
    · exact e3
    cases hp) hq
theorem dict_lens {a b : Addr} {oa ob : Obj} {ka kb : List (Str × Value)} (N : News h₀ L s.heap news) (pa : (a, oa) ∈ news) (pb : (b, ob) ∈ news) (da : oa.IsDictOf (strKind prog w) ka) (db : ob.IsDictOf (strKind prog w) kb) (la : (a == sysModules) = false) (lb : (b == sysModules) = false) (hkb : kb = []) (hu : A.units + 4 < cLine) (hq : Q (.bool (!decide (ka = []))) s) :
    wpAny (model prog w) A (compareOp .NotEq (.ref a) (.ref b)) Q E s := by
  subst hkb
  cases ka with
  | nil => exact keq_ne (knd := strKind prog w) (r := true) la lb (Heap.dictOf_iff.mpr ⟨oa, (N _ pa).1, da⟩) (Heap.dictOf_iff.mpr ⟨ob, (N _ pb).1, db⟩) (by omega) (fun _ => .nil) (by simpa using hq)
  | cons p r => exact keq_ne (knd := strKind prog w) (r := true) la lb (Heap.dictOf_iff.mpr ⟨oa, (N _ pa).1, da⟩) (Heap.dictOf_iff.mpr ⟨ob, (N _ pb).1, db⟩) (by omega) (fun e => nomatch e) (by simpa using hq)
end
/-- fresh in turn is what the assigned vector holds -/
theorem due_same {j k : Nat} {us ws us' fs due : List Value} (hw : 0 < ws.length) (hR : Rs j k us ws us') (hz : Rz j k ws fs) (hdl : due.length = us.length) (hd : ∀ q, q < us.length → due.getD q .none = fs.getD (q % fs.length) .none) : SameL us' due := by
  refine ⟨by rw [hR.1, hdl], fun q hq => ?_⟩
  rw [hR.1] at hq
  obtain ⟨o1, e1⟩ := hR.2 q hq
  have hm : q % ws.length < ws.length := Nat.mod_lt _ hw
  obtain ⟨o2, e2⟩ := hz.2 _ hm
  rw [hd q hq, hz.1]
  exact ⟨⟨_, o1⟩, ⟨_, o2⟩, by rw [e1, e2]⟩
end
section
open PySem PySem.W PyProof.Rows PySem.Calls PySem.Spec
set_option maxRecDepth 100000
def Good6' (as : List Att) : Prop := (as.map (·.nm)).Nodup ∧ as.length ≤ 10 ∧ ∀ a ∈ as, a.us.length ≤ 600
section
variable {prog : Program} {w : World} {A : Around} {E : Value → Shared → Prop} {s : Shared} {h₀ : Heap} {L : Addr} {news : List (Addr × Obj)}
theorem kinds_index {l : Addr} {n i : Nat} {a b c u : Tok} {Q : Value → Shared → Prop} (hi : i < 3) (N : News h₀ L s.heap news) (hm : (l, listOf #[.str (Str.ofString "logical") a, .str (Str.ofString "integer") b, .str (Str.ofString "character") c] n) ∈ news)
    (h : Q (.int (i : Nat) s.toks) { s with toks := s.toks + 1 }) : wpAny (model prog w) A (call (.builtin "list.index") [.ref l, .str (kS i) u]) Q E s := by
  refine wo ?_
  simp (disch :=
  k_dflt (
  refine wk ?_
  have ho := (N _ hm).1
  have each : ∀ y, y ∈ #[Value.str (Str.ofString "logical") a, .str (Str.ofString "integer") b, .str (Str.ofString "character") c] → SeqAt.EqAt A.in1 s y (.str (kS i) u) ((fun y => match y with | Value.str z _ => z == kS i | _ => false) y) := by
    intro y hy
    have hy' : y ∈ [Value.str (Str.ofString "logical") a, .str (Str.ofString "integer") b, .str (Str.ofString "character") c] := by simpa using hy
    rcases List.mem_cons.mp hy' with rfl | hy'
    · exact SeqAt.EqAt.str_str _ _ _ _
    rcases List.mem_cons.mp hy' with rfl | hy'
    · exact SeqAt.EqAt.str_str _ _ _ _
    rcases List.mem_cons.mp hy' with rfl | hy'
    · exact SeqAt.EqAt.str_str _ _ _ _
    cases hy'
  rcases three hi with rfl | rfl | rfl
  · exact call_meets PySem.F.slot_list_index ⟨_, ho, rfl⟩ PySem.F.entry_list_index (PySem.F.args_list_index_2 _ _) (SeqAt.list_indexAt l _ n none #[] _ _ 0 (by simp) (by decide) (by rfl) (fun m hm h => absurd h (by omega))) ⟨ho, each, h⟩
  · exact call_meets PySem.F.slot_list_index ⟨_, ho, rfl⟩ PySem.F.entry_list_index (PySem.F.args_list_index_2 _ _) (SeqAt.list_indexAt l _ n none #[] _ _ 1 (by simp) (by decide) (by rfl) (fun m hm h => by
      obtain rfl : m = 0 := Nat.lt_one_iff.mp h
      rfl)) ⟨ho, each, h⟩
  · exact call_meets PySem.F.slot_list_index ⟨_, ho, rfl⟩ PySem.F.entry_list_index (PySem.F.args_list_index_2 _ _) (SeqAt.list_indexAt l _ n none #[] _ _ 2 (by simp) (by decide) (by rfl) (fun m hm h => by
      obtain rfl | rfl : m = 0 ∨ m = 1 := by omega
      · rfl
      · rfl)) ⟨ho, each, h⟩
  )) only [↓wt]
/-- an item of the written list of the three kinds -/
theorem kinds_item {value slice : Expr} {l : Addr} {n i : Nat} {k : Int} {u a b c : Tok} {Q : Value → Shared → Prop} (hi : i < 3) (hk : k = (i : Int)) (N : News h₀ L s.heap news) (hm : (l, listOf #[.str (Str.ofString "logical") a, .str (Str.ofString "integer") b, .str (Str.ofString "character") c] n) ∈ news)
    (h : ∀ t, Q (.str (kS i) t) s) (hs : subscripted slice false (.ref l) (.int k u) = operate [.ref l, .int k u] (getItem (.ref l) (.int k u)) := by with_unfolding_all rfl) :
    wpAny (model prog w) A (subscriptTail value slice (.ref l) (.int k u)) Q E s := by
  subst hk
  refine item_any (us := [.str (Str.ofString "logical") a, .str (Str.ofString "integer") b, .str (Str.ofString "character") c]) (n := n) N hm (by omega) (by simp; omega) (by simp) ?_ hs
  rcases three hi with rfl | rfl | rfl
  · exact h a
  · exact h b
  · exact h c
theorem kinds_max {value slice : Expr} {l : Addr} {n i j : Nat} {u a b c : Tok} {Q : Value → Shared → Prop} (hi : i < 3) (hj : j < 3) (N : News h₀ L s.heap news) (hm : (l, listOf #[.str (Str.ofString "logical") a, .str (Str.ofString "integer") b, .str (Str.ofString "character") c] n) ∈ news)
    (h : ∀ t, Q (.str (kS (max i j)) t) s) (hs : subscripted slice false (.ref l) (.int (if (j : Int) > (i : Int) then (j : Int) else (i : Int)) u) = operate [.ref l, .int (if (j : Int) > (i : Int) then (j : Int) else (i : Int)) u] (getItem (.ref l) (.int (if (j : Int) > (i : Int) then (j : Int) else (i : Int)) u)) := by with_unfolding_all rfl) :
    wpAny (model prog w) A (subscriptTail value slice (.ref l) (.int (if (j : Int) > (i : Int) then (j : Int) else (i : Int)) u)) Q E s :=
  kinds_item (i := max i j) (by omega) (by split <;> omega) N hm h hs
end
theorem SameL.nil : SameL [] [] := ⟨rfl, fun _ h => absurd h (by simp)⟩
theorem rs_nil {j k : Nat} {us ws us' : List Value} (h : Rs j k us ws us') (h0 : us.length = 0) : SameL us' [] := by
  have : us' = [] := List.eq_nil_of_length_eq_zero (by rw [h.1, h0])
  subst this
  exact .nil
theorem SameL.nil_of {us : List Value} (h : us.length = 0) : SameL us [] := by
  have : us = [] := List.eq_nil_of_length_eq_zero h
  subst this
  exact .nil
theorem nts_no {n m : Nat} {ns : List Value} (h : Nts n m ns) (hn : n = 0 ∨ Int.fmod (n : Int) (m : Int) = 0) : SameL ns [] := by
  have hn' : ¬ (0 < n ∧ n % m ≠ 0) := by
    rcases hn with e | e
    · omega
    · rw [fmod_cast] at e; omega
  unfold Nts at h
  rw [if_neg hn'] at h
  subst h
  exact .nil
theorem nts_yes {n m : Nat} {ns : List Value} {t : Tok} (h : Nts n m ns) (h0 : 0 < n) (hn : Int.fmod (n : Int) (m : Int) ≠ 0) : SameL ns [.str (Str.ofString "number of items to replace is not a multiple of replacement length") t] := by
  have hn' : 0 < n ∧ n % m ≠ 0 := by
    rw [fmod_cast] at hn; omega
  unfold Nts at h
  rw [if_pos hn'] at h
  obtain ⟨t', rfl⟩ := h
  refine ⟨rfl, fun j hj => ?_⟩
  have : j = 0 := by simp at hj; exact hj
  subst this
  exact ⟨⟨2, rfl⟩, ⟨2, rfl⟩, rfl⟩
theorem SameL.okv {i : Nat} {us : List Value} (h : ∀ u ∈ us, Okv i u) : SameL us us := SameL.same fun u hu => ⟨i, h u hu⟩
/-- what seen_tells asks of the attributes -/
def Hav (w : World) (as : List Att) (av : Value) (da : Addr) (o : Obj) : Prop := (av = .none ∧ as = []) ∨ (av = .ref da ∧ o.IsDictOf (strKind PySem.Challenge.rw_pq1344_01.row.prog w) (attKvs as) ∧ (da == sysModules) = false ∧ (as.map (·.nm)).Nodup ∧ as.length ≤ 10 ∧ ∀ a ∈ as, a.us.length ≤ 600)
theorem Hav.out {w : World} {as : List Att} {av : Value} {da : Addr} {o : Obj} (h : Hav w as av da o) : (av = .none ∧ as = []) ∨ (av = .ref da ∧ o.IsDictOf (strKind PySem.Challenge.rw_pq1344_01.row.prog w) (attKvs as) ∧ (da == sysModules) = false ∧ (as.map (·.nm)).Nodup ∧ as.length ≤ 10 ∧ ∀ a ∈ as, a.us.length ≤ 600) := h
theorem hav_wo {w : World} {as : List Att} {av av' : Value} {da da' : Addr} {o' : Obj} (h6 : Good6' as) (hav : (av = .none ∧ as = []) ∨ av = .ref da) (hW : Wo w av (attKvs as) av' da' o') :
    (av' = .none ∧ as = []) ∨ (av' = .ref da' ∧ o'.IsDictOf (strKind PySem.Challenge.rw_pq1344_01.row.prog w) (attKvs as) ∧ (da' == sysModules) = false ∧ (as.map (·.nm)).Nodup ∧ as.length ≤ 10 ∧ ∀ a ∈ as, a.us.length ≤ 600) := by
  rcases hW with ⟨rfl, rfl⟩ | ⟨h, rfl, h1, h2⟩
  · rcases hav with ⟨_, h⟩ | h
    · exact .inl ⟨rfl, h⟩
    · exact nomatch h
  · exact .inr ⟨rfl, h1, h2, h6⟩
theorem hav_v {w : World} {as : List Att} {av : Value} {da : Addr} {o : Obj} (h6 : Good6' as) (hav : (av = .none ∧ as = []) ∨ av = .ref da) (h1 : o.IsDictOf (strKind PySem.Challenge.rw_pq1344_01.row.prog w) (attKvs as)) (h2 : (da == sysModules) = false) :
    (av = .none ∧ as = []) ∨ (av = .ref da ∧ o.IsDictOf (strKind PySem.Challenge.rw_pq1344_01.row.prog w) (attKvs as) ∧ (da == sysModules) = false ∧ (as.map (·.nm)).Nodup ∧ as.length ≤ 10 ∧ ∀ a ∈ as, a.us.length ≤ 600) :=
  hav.imp id fun h => ⟨h, h1, h2, h6⟩
theorem news_rot {h₀ h : Heap} {L D : Addr} {oD : Obj} {nx rest : List (Addr × Obj)} (N : News h₀ L h (((D, oD) :: nx) ++ rest)) : News h₀ L h ((D, oD) :: (rest ++ nx)) := fun q hq => N q (by
  simp only [List.cons_append, List.mem_cons, List.mem_append] at hq ⊢
  rcases hq with h | h | h
  · exact .inl h
  · exact .inr (.inr h)
  · exact .inr (.inl h))
theorem fmod_nat (q n : Nat) : (Int.fmod (0 + (q : Int)) (n : Int)).toNat = q % n := by rw [Int.zero_add, fmod_cast]; rfl
section
variable {prog : Program} {w : World} {A : Around} {h₀ : Heap} {L : Addr} {m : Str → Option Value} {env : Env} {elt : Expr} {x : Str} {scope : Scope} {cl : List (Str × Addr)} {s : Shared} {S : List (Addr × Obj) → Prop} {P : Nat → Value → Prop} {Fin : List Value → List (Addr × Obj) → Prop} {news : List (Addr × Obj)}
theorem cmp_due {n j k : Nat} {ws fs : List Value} (_hz : Rz j k ws fs)
    (turn : ∀ i v I oI C oC D m₂ ys h tk (E' : Value → Shared → Prop), i < n → P i v → LCg.NsObj oC m₂ → m₂ x = some v → Fr h₀ L h m → News h₀ L h ((I, oI) :: (C, oC) :: (D, LCg.lst ys) :: news) → LCg.Off3 I C D news → ((@Ne Nat I C) ∧ (@Ne Nat I D) ∧ (@Ne Nat C D)) →
      wpAny (model prog w) A (eval elt (compEnvC scope cl C env)) (CmpP h₀ L m { s with heap := h, toks := tk } I oI C oC D (LCg.lst ys) S (fun v => v = fs.getD (i % fs.length) .none) news) E' { s with heap := h, toks := tk })
    (fin : ∀ ys, ys.length = n → (∀ j, j < n → ys.getD j .none = fs.getD (j % fs.length) .none) → Fin ys news) : LCg.CompRest prog w A h₀ L m env elt x scope cl s S P Fin n 0 [] news := cmp_rest (fun i v => v = fs.getD (i % fs.length) .none) turn fin
end
theorem Hav.wo {w : World} {as : List Att} {av av' : Value} {da da' : Addr} {o' : Obj} (h6 : Good6' as) (hav : (av = .none ∧ as = []) ∨ av = .ref da) (hW : Wo w av (attKvs as) av' da' o') : Hav w as av' da' o' := hav_wo h6 hav hW
theorem Hav.v {w : World} {as : List Att} {av : Value} {da : Addr} {o : Obj} (h6 : Good6' as) (hav : (av = .none ∧ as = []) ∨ av = .ref da) (h1 : o.IsDictOf (strKind PySem.Challenge.rw_pq1344_01.row.prog w) (attKvs as)) (h2 : (da == sysModules) = false) : Hav w as av da o := hav_v h6 hav h1 h2
end
section
open PySem PySem.W PyProof.Rows PySem.Calls PySem.Spec
set_option maxRecDepth 100000
section
variable {w : World} {h₀ : Heap} {L : Addr} {m : Str → Option Value} {s₀ : Shared} {c da : Addr} {fixed news : List (Addr × Obj)} {ok : List Att → Prop} {as : List Att} {h : Heap} {tk : Nat} {o y : Obj} {us : List Value} {ms : List Int} {n : Nat}
theorem wears_stay (F : Fr h₀ L h m) (N : News h₀ L h news) (hok : ok as) (m1 : (da, o) ∈ news) (m2 : (c, listOf us.toArray n) ∈ news) (m3 : ∀ p ∈ fixed, p ∈ news) (m4 : ∀ p ∈ attLed w as, p ∈ news) (hD : o.IsDictOf (strKind PySem.Challenge.rw_pq1344_01.row.prog w) (attKvs as)) (hI : IntsAre us ms) (hul : us.length ≤ 600)
    (hA1 : AllNe da ((c, y) :: (fixed ++ attLed w as))) (hA2 : AllNe c (fixed ++ attLed w as)) (hA3 : ∀ q ∈ attLed w as, ∀ p ∈ fixed, p.1 ≠ q.1) : Wears w h₀ L m s₀ c da fixed ok .next { s₀ with heap := h, toks := tk } := by
  refine fun P hP => hP h tk o us ms n as F (fun q hq => N q ?_) hD hI hul hok hA1 hA2 hA3
  rcases List.mem_cons.mp hq with rfl | hq
  · exact m1
  rcases List.mem_cons.mp hq with rfl | hq
  · exact m2
  exact (List.mem_append.mp hq).elim (m3 q) (m4 q)
theorem wears_grow (a : Att) (F : Fr h₀ L h m) (N : News h₀ L h news) (hok : ok (as ++ [a])) (m1 : (da, o) ∈ news) (m2 : (c, listOf us.toArray n) ∈ news) (m3 : ∀ p ∈ fixed, p ∈ news) (m4 : ∀ p ∈ attLed w as, p ∈ news)
    (m5 : (a.x, instObj 113 a.d) ∈ news) (m6 : (a.d, dictOf (vd w.params a.t1 a.t2 a.t3 a.t4 a.t5 (.str a.kd a.kt) (.ref a.l) a.av a.sh a.lo) a.n1) ∈ news) (m7 : (a.l, listOf a.us.toArray a.n2) ∈ news)
    (hD : o.IsDictOf (strKind PySem.Challenge.rw_pq1344_01.row.prog w) (attKvs as ++ [(a.nm, .ref a.x)])) (hI : IntsAre us ms) (hul : us.length ≤ 600)
    (hA1 : AllNe da ((c, y) :: (fixed ++ attLed w as))) (hA2 : AllNe c (fixed ++ attLed w as)) (hA3 : ∀ q ∈ attLed w as, ∀ p ∈ fixed, p.1 ≠ q.1)
    (n1 : AllNe a.x ((da, y) :: (c, y) :: fixed)) (n2 : AllNe a.d ((da, y) :: (c, y) :: fixed)) (n3 : AllNe a.l ((da, y) :: (c, y) :: fixed)) : Wears w h₀ L m s₀ c da fixed ok .next { s₀ with heap := h, toks := tk } := by
  refine wo ?_
  simp (disch :=
  k_dflt (
  refine wk ?_
  have e : attKvs (as ++ [a]) = attKvs as ++ [(a.nm, .ref a.x)] := by simp [attKvs]
  refine fun P hP => hP h tk o us ms n (as ++ [a]) F (fun q hq => N q ?_) (by rw [e]; exact hD) hI hul hok ⟨hA1.1, AllNe.of fun q hq => ?_⟩ (AllNe.of fun q hq => ?_) ?_
  · rcases List.mem_cons.mp hq with rfl | hq
    · exact m1
    rcases List.mem_cons.mp hq with rfl | hq
    · exact m2
    rcases List.mem_append.mp hq with hq | hq
    · exact m3 q hq
    · exact attLed_snoc (P := fun q => q ∈ news) m4 m5 m6 m7 q hq
  · rcases List.mem_append.mp hq with hq | hq
    · exact hA1.2.all q (List.mem_append_left _ hq)
    · exact attLed_snoc (P := fun q => q.1 ≠ da) (fun q hq => hA1.2.all q (List.mem_append_right _ hq)) (Ne.symm n1.1) (Ne.symm n2.1) (Ne.symm n3.1) q hq
  · rcases List.mem_append.mp hq with hq | hq
    · exact hA2.all q (List.mem_append_left _ hq)
    · exact attLed_snoc (P := fun q => q.1 ≠ c) (fun q hq => hA2.all q (List.mem_append_right _ hq)) (Ne.symm n1.2.1) (Ne.symm n2.2.1) (Ne.symm n3.2.1) q hq
  · exact attLed_snoc (P := fun q => ∀ p ∈ fixed, p.1 ≠ q.1) hA3 (fun p hp => n1.2.2.all p hp) (fun p hp => n2.2.2.all p hp) fun p hp => n3.2.2.all p hp
  )) only [↓wt]
end
theorem nd4 : Str.ofString "dim" ≠ Str.ofString "names" ∧ Str.ofString "dim" ≠ Str.ofString "class" ∧ Str.ofString "dim" ≠ Str.ofString "unit" ∧ Str.ofString "names" ≠ Str.ofString "class" ∧ Str.ofString "names" ≠ Str.ofString "unit" ∧ Str.ofString "class" ≠ Str.ofString "unit" ∧ Str.ofString "dim" ≠ Str.ofString "dimnames" ∧ Str.ofString "names" ≠ Str.ofString "dimnames" ∧ Str.ofString "class" ≠ Str.ofString "dimnames" ∧ Str.ofString "unit" ≠ Str.ofString "dimnames" := by decide
/-- what is worn at last -/
def Ok6 : List Att → Prop := OkN (Str.ofString "unit") (OkN (Str.ofString "class") Ok4)
def Rest (as : List Att) : Prop := (∀ a ∈ as, Plain a.us ∧ a.us.length ≤ 600 ∧ (a.nm = Str.ofString "class" ∨ a.nm = Str.ofString "unit")) ∧ as.length ≤ 2 ∧ (as.map (·.nm)).Nodup
theorem ok6_split {as : List Att} (h : Ok6 as) : Rest as ∨ ∃ a r, as = a :: r ∧ Plain a.us ∧ ((a.nm = Str.ofString "dim" ∧ a.us.length = 2) ∨ (a.nm = Str.ofString "names" ∧ a.us.length ≤ 600)) ∧ Rest r := by
  refine wo ?_
  simp (disch :=
  k_dflt (
  refine wk ?_
  obtain ⟨_, _, _, _, _, cu, _⟩ := nd4
  rcases h with h | ⟨b, u, rfl, h, hun, hup, hul⟩ <;> rcases h with h | ⟨b', k, rfl, h, hkn, hkp, hkl⟩ <;> rcases h with rfl | ⟨a, rfl, hp, hn⟩
  · exact .inl ⟨fun _ h => (nomatch h), by simp, by simp⟩
  · exact .inr ⟨a, [], rfl, hp, hn, fun _ h => (nomatch h), by simp, by simp⟩
  · exact .inl ⟨by simpa using ⟨hkp, by omega, .inl hkn⟩, by simp, by simp⟩
  · exact .inr ⟨a, [k], rfl, hp, hn, by simpa using ⟨hkp, by omega, .inl hkn⟩, by simp, by simp⟩
  · exact .inl ⟨by simpa using ⟨hup, by omega, .inr hun⟩, by simp, by simp⟩
  · exact .inr ⟨a, [u], rfl, hp, hn, by simpa using ⟨hup, by omega, .inr hun⟩, by simp, by simp⟩
  · exact .inl ⟨by simpa using ⟨⟨hkp, by omega, .inl hkn⟩, hup, by omega, .inr hun⟩, by simp, by simpa [hkn, hun] using cu⟩
  · exact .inr ⟨a, [k, u], rfl, hp, hn, by simpa using ⟨⟨hkp, by omega, .inl hkn⟩, hup, by omega, .inr hun⟩, by simp, by simpa [hkn, hun] using cu⟩
  )) only [↓wt]
theorem rest_not {as : List Att} (h : Rest as) {k : Str} (h1 : k ≠ Str.ofString "class") (h2 : k ≠ Str.ofString "unit") : k ∉ as.map (·.nm) := fun hm => by
  obtain ⟨a, ha, e⟩ := List.mem_map.mp hm
  rcases (h.1 a ha).2.2 with z | z
  · exact h1 (by rw [← e, z])
  · exact h2 (by rw [← e, z])
theorem att_none {as : List Att} {k : Str} (h : k ∉ as.map (·.nm)) : valueAt (attKvs as) k = none := by
  induction as with
  | nil => rfl
  | cons a r ih =>
    simp only [List.map_cons, List.mem_cons, not_or] at h
    have := ih h.2
    simp only [attKvs, valueAt, List.map_cons, List.find?_cons] at this ⊢
    rw [decide_eq_false (Ne.symm h.1)]
    exact this
structure Good6 (as : List Att) : Prop where
  len : as.length ≤ 3
  nd : (as.map (·.nm)).Nodup
  us : ∀ a ∈ as, a.us.length ≤ 600
  pl : ∀ a ∈ as, ∀ u ∈ a.us, ∃ i, Okv i u
theorem Rest.good {as : List Att} (h : Rest as) : Good6 as := ⟨by have := h.2.1; omega, h.2.2, fun a ha => (h.1 a ha).2.1, fun a ha => (h.1 a ha).1⟩
theorem ok6_good {as : List Att} (h : Ok6 as) : Good6 as := by
  refine wo ?_
  simp (disch :=
  k_dflt (
  refine wk ?_
  obtain ⟨_, dc, du, nc, nu, _⟩ := nd4
  rcases ok6_split h with h | ⟨a, r, rfl, hp, hn, h⟩
  · exact h.good
  · have g := h.good
    have h2 := h.2.1
    refine ⟨by simp; omega, ?_, fun b hb => ?_, fun b hb => ?_⟩
    · simp only [List.map_cons, List.nodup_cons]
      refine ⟨?_, g.nd⟩
      rcases hn with ⟨e, _⟩ | ⟨e, _⟩ <;> rw [e]
      · exact rest_not h dc du
      · exact rest_not h nc nu
    · rcases List.mem_cons.mp hb with rfl | hb
      · rcases hn with ⟨_, e⟩ | ⟨_, e⟩ <;> omega
      · exact g.us b hb
    · rcases List.mem_cons.mp hb with rfl | hb
      · exact hp
      · exact g.pl b hb
  )) only [↓wt]
theorem ok6_dr {w : World} {as : List Att} {da : Addr} {o : Obj} (h : Ok6 as) (hD : o.IsDictOf (strKind PySem.Challenge.rw_pq1344_01.row.prog w) (attKvs as)) (hlo : (da == sysModules) = false) :
    ∃ xd dd ld ex ed el, Dr w (.ref da) da o (attKvs as) xd dd ld ex ed el ∧ (xd, ex) ∈ (da, o) :: attLed w as ∧ (dd, ed) ∈ (da, o) :: attLed w as ∧ (ld, el) ∈ (da, o) :: attLed w as := by
  refine wo ?_
  simp (disch :=
  k_dflt (
  refine wk ?_
  obtain ⟨dn, dc, du, nc, nu, _, d1, n1, c1, u1⟩ := nd4
  have g := ok6_good h
  have hl : (attKvs as).length ≤ 1000 := by simp only [attKvs, List.length_map]; have := g.len; omega
  rcases ok6_split h with h | ⟨a, r, rfl, hp, hn, h⟩
  · exact ⟨da, da, da, o, o, o, .inr ⟨rfl, hD, hlo, ⟨hl, att_none (rest_not h (Ne.symm c1) (Ne.symm u1))⟩, .inl ⟨att_none (rest_not h dc du), att_none (rest_not h nc nu)⟩⟩, .head _, .head _, .head _⟩
  · obtain ⟨m1, m2, m3⟩ := att_mem (w := w) (as := a :: r) (.head _)
    have hv := att_value g.nd (.head r)
    rcases hn with ⟨e, el⟩ | ⟨e, el⟩
    · refine ⟨a.x, a.d, a.l, _, _, _, .inr ⟨rfl, hD, hlo, ⟨hl, att_none ?_⟩, .inr (.inl ⟨by rw [← e]; exact hv, att_none ?_, _, _, _, _, _, _, _, _, _, _, _, _, rfl, rfl, rfl, el⟩)⟩, .tail _ m1, .tail _ m2, .tail _ m3⟩
      · simp only [List.map_cons, List.mem_cons, not_or, e]; exact ⟨Ne.symm d1, rest_not h (Ne.symm c1) (Ne.symm u1)⟩
      · simp only [List.map_cons, List.mem_cons, not_or, e]; exact ⟨Ne.symm dn, rest_not h nc nu⟩
    · refine ⟨a.x, a.d, a.l, _, _, _, .inr ⟨rfl, hD, hlo, ⟨hl, att_none ?_⟩, .inr (.inr ⟨att_none ?_, by rw [← e]; exact hv, _, _, _, _, _, _, _, _, _, _, _, _, rfl, rfl, rfl, el⟩)⟩, .tail _ m1, .tail _ m2, .tail _ m3⟩
      · simp only [List.map_cons, List.mem_cons, not_or, e]; exact ⟨Ne.symm n1, rest_not h (Ne.symm c1) (Ne.symm u1)⟩
      · simp only [List.map_cons, List.mem_cons, not_or, e]; exact ⟨dn, rest_not h dc du⟩
  )) only [↓wt]
end
section
open PySem PySem.W PyProof.Rows PySem.Calls
set_option Elab.async false
set_option maxRecDepth 100000 
set_option maxHeartbeats 8000000 
theorem kwL1_0 : True := by
  k_with_none
  k_with "MEM" => first | (with_reducible exact List.mem_cons_self) | ((with_reducible refine List.mem_cons_of_mem _ ?_); k_extra "MEM")
  k_with "ENTER" => (refine' code_defP ?zqk1 ?zqk2 ?zqk3 ?zqk4 ?zqk5 ?zqkA ?zqkF ?zqkK ?zqk6 ?zqk7 ?zqk8 ?zqk9 ?zqkB ?_ ?zqc2 ?zqc3 ?zqc4 ?zqc5; (case zqkA => exact rfl); (case zqkF => exact rfl); (case zqkK => exact rfl); (case zqk1 => k_asm); (case zqk2 => k_asm); (case zqk3 => k_asm); (case zqk4 => k_asm); (case zqk5 => k_asm); (case zqk6 => k_is); (case zqk7 => k_is); (case zqk8 => k_room); (case zqk9 => first | exact BindsTo.of_eq rfl | exact binds_K (by k_in) rfl (by k_is) rfl rfl rfl); (case zqc5 => decide); (case zqkB => exact locs rfl); (case zqc2 => exact rfl); (case zqc3 => exact rfl); (case zqc4 => exact rfl); k_whole; intro g' L' h' Q' FG' F' N' B' X' T' hQ' e9 A9; (try dsimp only); (try k_lift B'); (try k_fold))
  k_with "S0" => ((fail_if_success (with_reducible show Post _ _ _ _ _ _ _ _)); (fail_if_success (with_reducible show LoopP _ _ _ _ _ _ _ _)); (fail_if_success (with_reducible show CmpP _ _ _ _ _ _ _ _ _ _ _ _ _ _ _)))
  k_with "S1" => first | (k_unfold; (try dsimp only)) | (k_end; wrow_close) | walk1 | (with_reducible refine hand (by assumption) ?_; try dsimp only) | (dsimp only; walk1) | (leave1; try dsimp only)
  k_with "ROOM" => first | (refine' room0 ?zqh ?zqe; (case zqh => assumption); (case zqe => exact rfl)) | (refine' room1 ?zqh ?zqe; (case zqh => assumption); (case zqe => exact rfl)) | (refine' room2 ?zqh ?zqe; (case zqh => assumption); (case zqe => exact rfl)) | (refine' room3 ?zqh ?zqe; (case zqh => assumption); (case zqe => exact rfl)) | (refine' roomz ?zqh; (case zqh => assumption)) | ktr_room
  k_with "UNITS" => first | (refine' room0 ?zqh ?zqe; (case zqh => assumption); (case zqe => exact rfl)) | (refine' room1 ?zqh ?zqe; (case zqh => assumption); (case zqe => exact rfl)) | (refine' room2 ?zqh ?zqe; (case zqh => assumption); (case zqe => exact rfl)) | (refine' room3 ?zqh ?zqe; (case zqh => assumption); (case zqe => exact rfl)) | exact lt_num rfl | ktr_units
  k_with "AR" => first | assumption | exact Nat.le_max_right _ _ | exact Nat.le_max_left _ _ | exact Nat.max_lt.mpr ⟨by assumption, by assumption⟩ | (refine' le_up ?zqh ?zqe; (case zqh => assumption); (case zqe => exact rfl)) | omega
  k_with "SUT" => first | exact sub_self | (refine sub_skip ?_; k_extra "SUT")
  k_with "SUK" => first | exact sub_nil | k_extra "SUT" | k_extra "SUB"
  k_with "KEEP" => first | (refine keep_hd (List.Mem.head _) ?_; k_extra "KEEP") | exact keep_of (by k_extra "SUK") | ((with_reducible refine' keep_cons ?zqkm ?_); (case zqkm => k_mem); k_extra "KEEP")
  k_with "APQ" => (rename Apart _ _ => h9; first | exact Apart.at h9 (by k_extra "MEM") (by k_extra "MEM") | exact ap_at h9 (by k_extra "MEM") (by k_extra "MEM") | (clear h9; k_extra "APQ"))
  k_with "ANQ" => (rename AllNe _ _ => h9; first | exact AllNe.at h9 (by k_extra "MEM") | exact an_at h9 (by k_extra "MEM") | (clear h9; k_extra "ANQ"))
  k_with "ALQ" => (rename AllLt _ _ => h9; first | exact lt_ne h9 (by k_extra "MEM") | exact lt_en h9 (by k_extra "MEM") | exact lt_ne2 h9 (by assumption) (by k_extra "MEM") | exact lt_en2 h9 (by assumption) (by k_extra "MEM") | (clear h9; k_extra "ALQ"))
  k_with "NEQ" => first | assumption | exact Ne.symm (by assumption) | exact Nat.ne_of_lt (by assumption) | exact Nat.ne_of_gt (by assumption) | k_extra "ALQ" | k_extra "ANQ" | k_extra "APQ" | omega
  k_with "APS" => (rename Apart _ _ => h9; first | exact Apart.subA h9 rfl (by k_extra "SUK") | (clear h9; k_extra "APS"))
  k_with "NE1" => (refine neN ?_; (try dsimp only); k_extra "NEQ")
  k_with "ALL" => first | exact all_nil | (rename AllLt _ _ => h9; exact lt_sub h9 (by k_extra "SUT")) | (refine' all_cons ?zqa ?zqb; (case zqa => k_ne); (case zqb => k_all))
  k_with "ALN" => first | exact ne_nil | (refine ne_cons ?_ ?_; (focus ((try dsimp only); k_extra "NEQ")); k_extra "ALN")
  k_with "APM" => first | exact ap_nil | k_extra "APS" | (refine ap_cons ?_ ?_; (focus k_extra "ALN"); k_extra "APM")
  k_with "CA" => ((case zqkB => k_asm); (case zqkF => k_asm); (case zqkX => k_asm); (case zqkN => k_asm))
  k_with "CB" => ((case zqkT => k_asm); (case zqkK => first | exact rfl | assumption); (case zqkd => k_extra "ROOM"); (case zqku => k_extra "UNITS"))
  k_with "CE" => all_goals ((try ((with_reducible rename News _ _ _ _ => h9); simp only [List.nil_append, List.cons_append] at h9)); (try ((with_reducible rename Apart [] _ => h7); clear h7)); (try dsimp only [Option.getD_some, Option.getD_none]); (try k_sweep); (try k_fold))
  k_with "CZ" => all_goals ((try dsimp only [Option.getD_some, Option.getD_none]); (try k_sweep); (try k_fold))
  k_with "call builtin:len" => (k_here; (with_reducible show wpAny _ _ (call (Value.builtin "len") [Value.ref _]) _ _ _); k_dflt (refine' len_sym ?zqk1 ?zqk2 ?zqk3 ?_; (case zqk1 => k_asm); (case zqk2 => k_mem); (case zqk3 => k_extra "AR"); k_whole))
  k_with "getMethod ref" => (k_here; (with_reducible show wpAny _ _ (getMethod (Value.ref _) (PySem.Str.ofString "get") _) _ _ _); k_dflt (refine' get_method ?zqk1 ?zqk2 ?zqk3 ?_; (case zqk1 => k_asm); (case zqk2 => k_mem); (case zqk3 => with_reducible assumption); k_whole))
  k_with "call builtin:dict.get" => (k_here; (with_reducible show wpAny _ _ (call (Value.builtin "dict.get") [Value.ref _, Value.str _ _]) _ _ _); k_dflt (refine' get_call ?zqk0 ?zqk1 ?zqk2 ?zqk3 ?_; (case zqk1 => k_asm); (case zqk2 => k_mem); (case zqk3 => with_reducible assumption); (case zqk0 => with_reducible assumption); k_whole))
  k_with "LOCA" => first | exact LocArgs.nil | (refine' LocArgs.cons ?zqlk ?zqld ?zqlv ?zqlt; (case zqlk => kernel_rfl!); (case zqld => kernel_rfl); (case zqlv => first | rfl | assumption); (case zqlt => k_extra "LOCA"))
  k_with "eval Call" => (k_here; (with_reducible show wpAny _ _ (eval (Expr.Call (Expr.Name _ _) (Expr.Name _ _ :: _) [] _) _) _ _ _); first | ((with_reducible refine' callO_loc ?zqF ?zqX ?zqT ?zqe ?zqk ?zqa ?zqb ?zqc ?zql ?_); k_dflt ((case zqF => k_asm); (case zqX => k_asm); (case zqT => k_asm); (case zqa => exact rfl); (case zqb => kernel_rfl!); (case zqc => kernel_rfl); (case zqe => k_is); (case zqk => k_is); (case zql => k_extra "LOCA"); k_whole)) | ((with_reducible refine' callC_loc ?zqF ?zqX ?zqT ?zqe ?zqk ?zqa ?zqb ?zqc ?zql ?_); k_dflt ((case zqF => k_asm); (case zqX => k_asm); (case zqT => k_asm); (case zqa => exact rfl); (case zqb => kernel_rfl!); (case zqc => kernel_rfl); (case zqe => k_is); (case zqk => k_is); (case zql => k_extra "LOCA"); k_whole)))
  k_with "eval Attribute Name" => (k_here; (with_reducible refine' attrO_loc ?zqF ?zqv ?zqa ?zqb ?zqc ?_); k_dflt ((case zqF => k_asm); (case zqa => exact rfl); (case zqb => kernel_rfl!); (case zqc => kernel_rfl); (case zqv => first | rfl | assumption); k_whole))
  k_with "ite" => (k_here; first | (k_closed; first | ((with_reducible refine ite_pos ?zqk2 ?_); k_dflt (case zqk2 => decide)) | ((with_reducible refine ite_neg ?zqk2 ?_); k_dflt (case zqk2 => decide))) | (refine' ite_bf ?zqk1 ?_; (case zqk1 => first | assumption | exact decide_eq_false (by omega) | exact beq_eq_false_iff_ne.mpr (by omega))) | (refine' ite_bt ?zqk1 ?_; (case zqk1 => first | assumption | exact decide_eq_true (by omega) | exact beq_iff_eq.mpr (by omega))))
  k_with "call type:dict" => (k_here; (with_reducible show wpAny _ _ (call (Value.type "dict") [Value.ref _]) _ _ _); k_dflt (refine' dict_copyK ?zqF ?zqN ?zqb ?zqm ?zqD ?zql ?zqz ?_; (case zqF => k_asm); (case zqN => k_asm); (case zqb => exact Top.nolimit (by k_asm)); (case zqm => k_mem); (case zqD => with_reducible assumption); (case zql => with_reducible assumption); (case zqz => omega); k_whole); intro d' h' o' F' N' l1 lo' hd'; (try k_lt l1))
  k_with "eval Name" => (k_here; first | ((with_reducible refine' nameO_L ?zqF ?zqv ?_ ?zqa ?zqb ?zqc); k_dflt ((case zqF => k_asm); (case zqa => exact rfl); (case zqb => kernel_rfl!); (case zqc => kernel_rfl); (case zqv => first | rfl | assumption); k_whole)) | ((with_reducible refine' nameO_K ?zqF ?zqX ?zqT ?zqe ?_ ?zqa ?zqb ?zqc); k_dflt ((case zqF => k_asm); (case zqX => k_asm); (case zqT => k_asm); (case zqa => exact rfl); (case zqb => kernel_rfl!); (case zqc => kernel_rfl); (case zqe => k_is); k_whole)) | ((with_reducible refine' nameC_L ?zqF ?zqv ?_ ?zqa ?zqb ?zqc); k_dflt ((case zqF => k_asm); (case zqa => exact rfl); (case zqb => kernel_rfl!); (case zqc => kernel_rfl); (case zqv => first | rfl | assumption); k_whole)) | ((with_reducible refine' nameC_K ?zqF ?zqX ?zqT ?zqe ?_ ?zqa ?zqb ?zqc); k_dflt ((case zqF => k_asm); (case zqX => k_asm); (case zqT => k_asm); (case zqa => exact rfl); (case zqb => kernel_rfl!); (case zqc => kernel_rfl); (case zqe => k_is); k_whole)))
  trivial
theorem kwL1_1 : True := by
  k_with "SUB" => first | exact sub_nil | ((with_reducible refine' sub_cons ?zqsm ?_); (case zqsm => k_mem); k_extra "SUB") | (refine sub_app ?_ ?_; (focus k_extra "SUB"); k_extra "SUB") | k_extra "SUT" | (intro p9 hp9; repeat' (first | exact hp9 | refine List.mem_cons_of_mem _ ?_ | exact List.mem_append.mpr (Or.inl hp9) | refine List.mem_append.mpr (Or.inr ?_)))
  k_with "OWN" => (intro p9 hp9; repeat' (first | exact hp9 | refine List.mem_cons_of_mem _ ?_ | exact List.mem_append.mpr (Or.inl hp9) | refine List.mem_append.mpr (Or.inr ?_)))
  k_with "ALL" => ((rename AllNe _ _ => hAn9); first | (refine AllNe.all ?_; exact hAn9) | (refine fun p hp => AllNe.all hAn9 p ?_; repeat' (first | exact hp | exact List.mem_append.mpr (Or.inl hp) | exact List.mem_append.mpr (Or.inr hp) | refine List.mem_cons_of_mem _ ?_)) | (clear hAn9; k_all))
  k_with "eval Name" => (k_here; (with_reducible show wpAny _ _ (eval (Expr.Name _ _) (envOfC _ _ _ _ _)) _ _ _); k_dflt (refine' ldLoc ?zqF ?zqv ?_ ?zqa ?zqb ?zqc; (case zqa => rfl); (case zqb => rfl); (case zqc => decide); (case zqF => k_asm); (case zqv => assumption); k_whole))
  k_with "call ref" => (k_here; (with_reducible show wpAny _ _ (call (Value.ref 113) _) _ _ _); k_dflt (first | (refine' tellsN_callG (vector_new) ?zqkB ?zqkF ?zqkX ?zqkN ?zqkT ?zqkK ?zqkd ?zqku ?_; k_extra "CA"; k_extra "CB"; k_whole; intro x9Z d9Z q91Z q92Z q93Z q94Z q95Z hdx9Z h' tk' F' N' A'; k_extra "CE") | (refine' tellsN_callG (vector_new3) ?zqkB ?zqkF ?zqkX ?zqkN ?zqkT ?zqkK ?zqkd ?zqku ?_; k_extra "CA"; k_extra "CB"; k_whole; intro x9Z d9Z q91Z q92Z q93Z q94Z q95Z hdx9Z h' tk' F' N' A'; k_extra "CE")))
  k_with "call ref" => (k_here; (with_reducible show wpAny _ _ (call (Value.ref 793) _) _ _ _); k_dflt (refine' tells_callGU (card2_tells _ ?zqhI ?zqhlen ?zqhk0 ?zqhk1) ?zqkB ?zqkF ?zqkX ?zqkN ?zqkS ?zqkU ?zqkT ?zqkK ?zqkd ?zqku ?_; k_extra "CA"; (case zqhI => with_reducible assumption); (case zqkS => k_extra "SUK"); (case zqkU => k_updF); (case zqhlen => k_extra "AR"); (case zqhk0 => k_extra "AR"); (case zqhk1 => k_extra "AR"); k_extra "CB"; k_whole; intro r9Z t9Z u9Z n9Z m9Z hr0Z hr1Z hulZ hI9Z h' tk' F' N' A'; (try dsimp only at N'); k_extra "CE"))
  k_with "setItem ref str" => (k_here; k_dflt (refine' kda_set (knd := PySem.strKind _ _) ?zqF ?zqN ?zqU ?zqd (strKind_is _ _ _ _) ?zqz ?_; (case zqF => k_asm); (case zqN => k_asm); (case zqU => k_updF); (case zqd => k_asm); (case zqz => rw [sizeLine_eq]; omega)); intro h' o' F' N' hd'; (try dsimp only at N'))
  trivial
theorem dress5 {w : World} {p : Program} {loose : List Str} {mean : ExcName → Option Value} {mg mb : Str → Option Value} {h₀ : Heap} {L fa : Addr} {cd : Value} {m : Str → Option Value} {s : Shared} {c da : Addr} {us : List Value} {ms : List Int} {n : Nat} {o oc : Obj} {as : List Att} {el ne x d li n1 n2 : Nat} {t1 t2 t3 t4 t5 kt : Tok} {i : Nat} {sh lo : Value} {es : List Value} {E : Value → Shared → Prop} (B : Below callerA h₀ [] h₀) (X : (fragK.heap_1 w.params).In h₀) (T : Top p loose mean mg mb h₀) (F : Fr h₀ L s.heap m) (hm1 : m (Str.ofString "cards") = some (.ref c)) (hm2 : m (Str.ofString "dress") = some (.ref da)) (hm3 : m (Str.ofString "entries") = some (.ref el)) (N : News h₀ L s.heap ((da, o) :: (c, listOf us.toArray n) :: ([(el, listOf es.toArray ne), (x, instObj 113 d), (d, dictOf (vd w.params t1 t2 t3 t4 t5 (.str (kS i) kt) (.ref li) .none sh lo) n1), (li, listOf es.toArray n2), (L + 1, oc)] ++ attLed w as))) (hD : o.IsDictOf (strKind PySem.Challenge.rw_pq1344_01.row.prog w) (attKvs as)) (hI : IntsAre us ms) (hul : us.length ≤ 600) (hal : (attKvs as).length ≤ 10) (hA1 : AllNe da ((c, listOf us.toArray n) :: ([(el, listOf es.toArray ne), (x, instObj 113 d), (d, dictOf (vd w.params t1 t2 t3 t4 t5 (.str (kS i) kt) (.ref li) .none sh lo) n1), (li, listOf es.toArray n2), (L + 1, oc)] ++ attLed w as))) (hA2 : AllNe c ([(el, listOf es.toArray ne), (x, instObj 113 d), (d, dictOf (vd w.params t1 t2 t3 t4 t5 (.str (kS i) kt) (.ref li) .none sh lo) n1), (li, listOf es.toArray n2), (L + 1, oc)] ++ attLed w as)) (hA3 : ∀ q ∈ attLed w as, ∀ p ∈ [(el, listOf es.toArray ne), (x, instObj 113 d), (d, dictOf (vd w.params t1 t2 t3 t4 t5 (.str (kS i) kt) (.ref li) .none sh lo) n1), (li, listOf es.toArray n2), (L + 1, oc)], p.1 ≠ q.1) {ok : List Att → Prop} (hok : ok as) (hnm : Str.ofString "class" ∉ (attKvs as).map (·.1)) :
    let e := (envOfC (Str.ofString "law") lawScope L fa cd); let A := callerA.deeper e; wpAny (model PySem.Challenge.rw_pq1344_01.row.prog w) A (exec (lawAt 5) e) (Wears w h₀ L m s c da [(el, listOf es.toArray ne), (x, instObj 113 d), (d, dictOf (vd w.params t1 t2 t3 t4 t5 (.str (kS i) kt) (.ref li) .none sh lo) n1), (li, listOf es.toArray n2), (L + 1, oc)] (OkN (Str.ofString "class") ok)) E s := by
  refine wo ?_
  simp (disch :=
  k_dflt (
  refine wk ?_
  have eS : lawScope = ⟨_, _, _, _, _⟩ := rfl
  dsimp only at eS
  rw [eS]
  clear eS
  intro e9 A9
  show wpAny _ _ (exec (Stmt.If _ _ _ _) _) _ _ _
  (try k_fold)
  simp only [List.cons_append, List.nil_append] at N hA1 hA2
  repeat' ((fail_if_success (with_reducible show Wears _ _ _ _ _ _ _ _ _ _ _)); k_extra "S0"; k_extra "S1")
  · (try dsimp only)
    (rename IntsAre _ _ => hI9)
    (rename Obj.IsDictOf _ _ _ => zhd)
    rw [stored_new hnm] at zhd
    exact wears_grow ⟨Str.ofString "class", Str.ofString "character", _, _, _, _, _, _, _, _, _, _, _, _, _, _, [.str (Str.ofString "odd") _]⟩ (by k_asm) (by k_asm) (.inr ⟨as, _, rfl, hok, rfl, (fun u hu => ⟨2, by rw [List.mem_singleton.mp hu]; exact rfl⟩), rfl⟩) (by k_mem) (by k_mem) (by k_extra "SUB") (by k_extra "SUB") (by k_mem) (by k_mem) (by k_mem) zhd hI9 (by assumption) hA1 hA2 hA3 (AllNe.of (by k_extra "ALN")) (AllNe.of (by k_extra "ALN")) (AllNe.of (by k_extra "ALN"))
  · (try dsimp only)
    (rename IntsAre _ _ => hI9)
    exact wears_stay (by k_asm) (by k_asm) (.inl hok) (by k_mem) (by k_mem) (by k_extra "SUB") (by k_extra "SUB") hD hI9 (by assumption) hA1 hA2 hA3
  )) only [↓wt]
theorem dress6 {w : World} {p : Program} {loose : List Str} {mean : ExcName → Option Value} {mg mb : Str → Option Value} {h₀ : Heap} {L fa : Addr} {cd : Value} {m : Str → Option Value} {s : Shared} {c da : Addr} {us : List Value} {ms : List Int} {n : Nat} {o oc : Obj} {as : List Att} {el ne x d li n1 n2 : Nat} {t1 t2 t3 t4 t5 kt : Tok} {i : Nat} {sh lo : Value} {es : List Value} {E : Value → Shared → Prop} (B : Below callerA h₀ [] h₀) (X : (fragK.heap_1 w.params).In h₀) (T : Top p loose mean mg mb h₀) (F : Fr h₀ L s.heap m) (hm1 : m (Str.ofString "cards") = some (.ref c)) (hm2 : m (Str.ofString "dress") = some (.ref da)) (hm3 : m (Str.ofString "entries") = some (.ref el)) (N : News h₀ L s.heap ((da, o) :: (c, listOf us.toArray n) :: ([(el, listOf es.toArray ne), (x, instObj 113 d), (d, dictOf (vd w.params t1 t2 t3 t4 t5 (.str (kS i) kt) (.ref li) .none sh lo) n1), (li, listOf es.toArray n2), (L + 1, oc)] ++ attLed w as))) (hD : o.IsDictOf (strKind PySem.Challenge.rw_pq1344_01.row.prog w) (attKvs as)) (hI : IntsAre us ms) (hul : us.length ≤ 600) (hal : (attKvs as).length ≤ 10) (hA1 : AllNe da ((c, listOf us.toArray n) :: ([(el, listOf es.toArray ne), (x, instObj 113 d), (d, dictOf (vd w.params t1 t2 t3 t4 t5 (.str (kS i) kt) (.ref li) .none sh lo) n1), (li, listOf es.toArray n2), (L + 1, oc)] ++ attLed w as))) (hA2 : AllNe c ([(el, listOf es.toArray ne), (x, instObj 113 d), (d, dictOf (vd w.params t1 t2 t3 t4 t5 (.str (kS i) kt) (.ref li) .none sh lo) n1), (li, listOf es.toArray n2), (L + 1, oc)] ++ attLed w as)) (hA3 : ∀ q ∈ attLed w as, ∀ p ∈ [(el, listOf es.toArray ne), (x, instObj 113 d), (d, dictOf (vd w.params t1 t2 t3 t4 t5 (.str (kS i) kt) (.ref li) .none sh lo) n1), (li, listOf es.toArray n2), (L + 1, oc)], p.1 ≠ q.1) {ok : List Att → Prop} (hok : ok as) (hnm : Str.ofString "unit" ∉ (attKvs as).map (·.1)) :
    let e := (envOfC (Str.ofString "law") lawScope L fa cd); let A := callerA.deeper e; wpAny (model PySem.Challenge.rw_pq1344_01.row.prog w) A (exec (lawAt 6) e) (Wears w h₀ L m s c da [(el, listOf es.toArray ne), (x, instObj 113 d), (d, dictOf (vd w.params t1 t2 t3 t4 t5 (.str (kS i) kt) (.ref li) .none sh lo) n1), (li, listOf es.toArray n2), (L + 1, oc)] (OkN (Str.ofString "unit") ok)) E s := by
  refine wo ?_
  simp (disch :=
  k_dflt (
  refine wk ?_
  have eS : lawScope = ⟨_, _, _, _, _⟩ := rfl
  dsimp only at eS
  rw [eS]
  clear eS
  intro e9 A9
  show wpAny _ _ (exec (Stmt.If _ _ _ _) _) _ _ _
  (try k_fold)
  simp only [List.cons_append, List.nil_append] at N hA1 hA2
  repeat' ((fail_if_success (with_reducible show Wears _ _ _ _ _ _ _ _ _ _ _)); k_extra "S0"; k_extra "S1")
  · (try dsimp only)
    (rename IntsAre _ _ => hI9)
    (rename Obj.IsDictOf _ _ _ => zhd)
    rw [stored_new hnm] at zhd
    exact wears_grow ⟨Str.ofString "unit", Str.ofString "integer", _, _, _, _, _, _, _, _, _, _, _, _, _, _, [.int 7 _]⟩ (by k_asm) (by k_asm) (.inr ⟨as, _, rfl, hok, rfl, (fun u hu => ⟨1, by rw [List.mem_singleton.mp hu]; exact .inr ⟨rfl, by decide, by decide⟩⟩), rfl⟩) (by k_mem) (by k_mem) (by k_extra "SUB") (by k_extra "SUB") (by k_mem) (by k_mem) (by k_mem) zhd hI9 (by assumption) hA1 hA2 hA3 (AllNe.of (by k_extra "ALN")) (AllNe.of (by k_extra "ALN")) (AllNe.of (by k_extra "ALN"))
  · (try dsimp only)
    (rename IntsAre _ _ => hI9)
    exact wears_stay (by k_asm) (by k_asm) (.inl hok) (by k_mem) (by k_mem) (by k_extra "SUB") (by k_extra "SUB") hD hI9 (by assumption) hA1 hA2 hA3
  )) only [↓wt]
end
section
open PySem PySem.W PyProof.Rows PySem.Calls
set_option Elab.async false
set_option maxRecDepth 100000 
set_option maxHeartbeats 8000000 
theorem kwL2_0 : True := by
  k_with_none
  k_with "MEM" => first | (with_reducible exact List.mem_cons_self) | ((with_reducible refine List.mem_cons_of_mem _ ?_); k_extra "MEM")
  k_with "ENTER" => (refine' code_defP ?zqk1 ?zqk2 ?zqk3 ?zqk4 ?zqk5 ?zqkA ?zqkF ?zqkK ?zqk6 ?zqk7 ?zqk8 ?zqk9 ?zqkB ?_ ?zqc2 ?zqc3 ?zqc4 ?zqc5; (case zqkA => exact rfl); (case zqkF => exact rfl); (case zqkK => exact rfl); (case zqk1 => k_asm); (case zqk2 => k_asm); (case zqk3 => k_asm); (case zqk4 => k_asm); (case zqk5 => k_asm); (case zqk6 => k_is); (case zqk7 => k_is); (case zqk8 => k_room); (case zqk9 => first | exact BindsTo.of_eq rfl | exact binds_K (by k_in) rfl (by k_is) rfl rfl rfl); (case zqc5 => decide); (case zqkB => exact locs rfl); (case zqc2 => exact rfl); (case zqc3 => exact rfl); (case zqc4 => exact rfl); k_whole; intro g' L' h' Q' FG' F' N' B' X' T' hQ' e9 A9; (try dsimp only); (try k_lift B'); (try k_fold))
  k_with "S0" => ((fail_if_success (with_reducible show Post _ _ _ _ _ _ _ _)); (fail_if_success (with_reducible show LoopP _ _ _ _ _ _ _ _)); (fail_if_success (with_reducible show CmpP _ _ _ _ _ _ _ _ _ _ _ _ _ _ _)))
  k_with "S1" => first | (k_unfold; (try dsimp only)) | (k_end; wrow_close) | walk1 | (with_reducible refine hand (by assumption) ?_; try dsimp only) | (dsimp only; walk1) | (leave1; try dsimp only)
  k_with "ROOM" => first | (refine' room0 ?zqh ?zqe; (case zqh => assumption); (case zqe => exact rfl)) | (refine' room1 ?zqh ?zqe; (case zqh => assumption); (case zqe => exact rfl)) | (refine' room2 ?zqh ?zqe; (case zqh => assumption); (case zqe => exact rfl)) | (refine' room3 ?zqh ?zqe; (case zqh => assumption); (case zqe => exact rfl)) | (refine' roomz ?zqh; (case zqh => assumption)) | ktr_room
  k_with "UNITS" => first | (refine' room0 ?zqh ?zqe; (case zqh => assumption); (case zqe => exact rfl)) | (refine' room1 ?zqh ?zqe; (case zqh => assumption); (case zqe => exact rfl)) | (refine' room2 ?zqh ?zqe; (case zqh => assumption); (case zqe => exact rfl)) | (refine' room3 ?zqh ?zqe; (case zqh => assumption); (case zqe => exact rfl)) | exact lt_num rfl | ktr_units
  k_with "AR" => first | assumption | exact Nat.le_max_right _ _ | exact Nat.le_max_left _ _ | exact Nat.max_lt.mpr ⟨by assumption, by assumption⟩ | (refine' le_up ?zqh ?zqe; (case zqh => assumption); (case zqe => exact rfl)) | omega
  k_with "SUT" => first | exact sub_self | (refine sub_skip ?_; k_extra "SUT")
  k_with "SUK" => first | exact sub_nil | k_extra "SUT" | k_extra "SUB"
  k_with "KEEP" => first | (refine keep_hd (List.Mem.head _) ?_; k_extra "KEEP") | exact keep_of (by k_extra "SUK") | ((with_reducible refine' keep_cons ?zqkm ?_); (case zqkm => k_mem); k_extra "KEEP")
  k_with "APQ" => (rename Apart _ _ => h9; first | exact Apart.at h9 (by k_extra "MEM") (by k_extra "MEM") | exact ap_at h9 (by k_extra "MEM") (by k_extra "MEM") | (clear h9; k_extra "APQ"))
  k_with "ANQ" => (rename AllNe _ _ => h9; first | exact AllNe.at h9 (by k_extra "MEM") | exact an_at h9 (by k_extra "MEM") | (clear h9; k_extra "ANQ"))
  k_with "ALQ" => (rename AllLt _ _ => h9; first | exact lt_ne h9 (by k_extra "MEM") | exact lt_en h9 (by k_extra "MEM") | exact lt_ne2 h9 (by assumption) (by k_extra "MEM") | exact lt_en2 h9 (by assumption) (by k_extra "MEM") | (clear h9; k_extra "ALQ"))
  k_with "NEQ" => first | assumption | exact Ne.symm (by assumption) | exact Nat.ne_of_lt (by assumption) | exact Nat.ne_of_gt (by assumption) | k_extra "ALQ" | k_extra "ANQ" | k_extra "APQ" | omega
  k_with "APS" => (rename Apart _ _ => h9; first | exact Apart.subA h9 rfl (by k_extra "SUK") | (clear h9; k_extra "APS"))
  k_with "NE1" => (refine neN ?_; (try dsimp only); k_extra "NEQ")
  k_with "ALL" => first | exact all_nil | (rename AllLt _ _ => h9; exact lt_sub h9 (by k_extra "SUT")) | (refine' all_cons ?zqa ?zqb; (case zqa => k_ne); (case zqb => k_all))
  k_with "ALN" => first | exact ne_nil | (refine ne_cons ?_ ?_; (focus ((try dsimp only); k_extra "NEQ")); k_extra "ALN")
  k_with "APM" => first | exact ap_nil | k_extra "APS" | (refine ap_cons ?_ ?_; (focus k_extra "ALN"); k_extra "APM")
  k_with "CA" => ((case zqkB => k_asm); (case zqkF => k_asm); (case zqkX => k_asm); (case zqkN => k_asm))
  k_with "CB" => ((case zqkT => k_asm); (case zqkK => first | exact rfl | assumption); (case zqkd => k_extra "ROOM"); (case zqku => k_extra "UNITS"))
  k_with "CE" => all_goals ((try ((with_reducible rename News _ _ _ _ => h9); simp only [List.nil_append, List.cons_append] at h9)); (try ((with_reducible rename Apart [] _ => h7); clear h7)); (try dsimp only [Option.getD_some, Option.getD_none]); (try k_sweep); (try k_fold))
  k_with "CZ" => all_goals ((try dsimp only [Option.getD_some, Option.getD_none]); (try k_sweep); (try k_fold))
  k_with "call builtin:len" => (k_here; (with_reducible show wpAny _ _ (call (Value.builtin "len") [Value.ref _]) _ _ _); k_dflt (refine' len_sym ?zqk1 ?zqk2 ?zqk3 ?_; (case zqk1 => k_asm); (case zqk2 => k_mem); (case zqk3 => k_extra "AR"); k_whole))
  k_with "getMethod ref" => (k_here; (with_reducible show wpAny _ _ (getMethod (Value.ref _) (PySem.Str.ofString "get") _) _ _ _); k_dflt (refine' get_method ?zqk1 ?zqk2 ?zqk3 ?_; (case zqk1 => k_asm); (case zqk2 => k_mem); (case zqk3 => with_reducible assumption); k_whole))
  k_with "call builtin:dict.get" => (k_here; (with_reducible show wpAny _ _ (call (Value.builtin "dict.get") [Value.ref _, Value.str _ _]) _ _ _); k_dflt (refine' get_call ?zqk0 ?zqk1 ?zqk2 ?zqk3 ?_; (case zqk1 => k_asm); (case zqk2 => k_mem); (case zqk3 => with_reducible assumption); (case zqk0 => with_reducible assumption); k_whole))
  k_with "LOCA" => first | exact LocArgs.nil | (refine' LocArgs.cons ?zqlk ?zqld ?zqlv ?zqlt; (case zqlk => kernel_rfl!); (case zqld => kernel_rfl); (case zqlv => first | rfl | assumption); (case zqlt => k_extra "LOCA"))
  k_with "eval Call" => (k_here; (with_reducible show wpAny _ _ (eval (Expr.Call (Expr.Name _ _) (Expr.Name _ _ :: _) [] _) _) _ _ _); first | ((with_reducible refine' callO_loc ?zqF ?zqX ?zqT ?zqe ?zqk ?zqa ?zqb ?zqc ?zql ?_); k_dflt ((case zqF => k_asm); (case zqX => k_asm); (case zqT => k_asm); (case zqa => exact rfl); (case zqb => kernel_rfl!); (case zqc => kernel_rfl); (case zqe => k_is); (case zqk => k_is); (case zql => k_extra "LOCA"); k_whole)) | ((with_reducible refine' callC_loc ?zqF ?zqX ?zqT ?zqe ?zqk ?zqa ?zqb ?zqc ?zql ?_); k_dflt ((case zqF => k_asm); (case zqX => k_asm); (case zqT => k_asm); (case zqa => exact rfl); (case zqb => kernel_rfl!); (case zqc => kernel_rfl); (case zqe => k_is); (case zqk => k_is); (case zql => k_extra "LOCA"); k_whole)))
  k_with "eval Attribute Name" => (k_here; (with_reducible refine' attrO_loc ?zqF ?zqv ?zqa ?zqb ?zqc ?_); k_dflt ((case zqF => k_asm); (case zqa => exact rfl); (case zqb => kernel_rfl!); (case zqc => kernel_rfl); (case zqv => first | rfl | assumption); k_whole))
  k_with "ite" => (k_here; first | (k_closed; first | ((with_reducible refine ite_pos ?zqk2 ?_); k_dflt (case zqk2 => decide)) | ((with_reducible refine ite_neg ?zqk2 ?_); k_dflt (case zqk2 => decide))) | (refine' ite_bf ?zqk1 ?_; (case zqk1 => first | assumption | exact decide_eq_false (by omega) | exact beq_eq_false_iff_ne.mpr (by omega))) | (refine' ite_bt ?zqk1 ?_; (case zqk1 => first | assumption | exact decide_eq_true (by omega) | exact beq_iff_eq.mpr (by omega))))
  k_with "call type:dict" => (k_here; (with_reducible show wpAny _ _ (call (Value.type "dict") [Value.ref _]) _ _ _); k_dflt (refine' dict_copyK ?zqF ?zqN ?zqb ?zqm ?zqD ?zql ?zqz ?_; (case zqF => k_asm); (case zqN => k_asm); (case zqb => exact Top.nolimit (by k_asm)); (case zqm => k_mem); (case zqD => with_reducible assumption); (case zql => with_reducible assumption); (case zqz => omega); k_whole); intro d' h' o' F' N' l1 lo' hd'; (try k_lt l1))
  k_with "eval Name" => (k_here; first | ((with_reducible refine' nameO_L ?zqF ?zqv ?_ ?zqa ?zqb ?zqc); k_dflt ((case zqF => k_asm); (case zqa => exact rfl); (case zqb => kernel_rfl!); (case zqc => kernel_rfl); (case zqv => first | rfl | assumption); k_whole)) | ((with_reducible refine' nameO_K ?zqF ?zqX ?zqT ?zqe ?_ ?zqa ?zqb ?zqc); k_dflt ((case zqF => k_asm); (case zqX => k_asm); (case zqT => k_asm); (case zqa => exact rfl); (case zqb => kernel_rfl!); (case zqc => kernel_rfl); (case zqe => k_is); k_whole)) | ((with_reducible refine' nameC_L ?zqF ?zqv ?_ ?zqa ?zqb ?zqc); k_dflt ((case zqF => k_asm); (case zqa => exact rfl); (case zqb => kernel_rfl!); (case zqc => kernel_rfl); (case zqv => first | rfl | assumption); k_whole)) | ((with_reducible refine' nameC_K ?zqF ?zqX ?zqT ?zqe ?_ ?zqa ?zqb ?zqc); k_dflt ((case zqF => k_asm); (case zqX => k_asm); (case zqT => k_asm); (case zqa => exact rfl); (case zqb => kernel_rfl!); (case zqc => kernel_rfl); (case zqe => k_is); k_whole)))
  trivial
theorem kwL2_1 : True := by
  k_with "SUB" => first | exact sub_nil | ((with_reducible refine' sub_cons ?zqsm ?_); (case zqsm => k_mem); k_extra "SUB") | (refine sub_app ?_ ?_; (focus k_extra "SUB"); k_extra "SUB") | k_extra "SUT" | (intro p9 hp9; repeat' (first | exact hp9 | refine List.mem_cons_of_mem _ ?_ | exact List.mem_append.mpr (Or.inl hp9) | refine List.mem_append.mpr (Or.inr ?_)))
  k_with "OWN" => (intro p9 hp9; repeat' (first | exact hp9 | refine List.mem_cons_of_mem _ ?_ | exact List.mem_append.mpr (Or.inl hp9) | refine List.mem_append.mpr (Or.inr ?_)))
  k_with "ALL" => ((rename AllNe _ _ => hAn9); first | (refine AllNe.all ?_; exact hAn9) | (refine fun p hp => AllNe.all hAn9 p ?_; repeat' (first | exact hp | exact List.mem_append.mpr (Or.inl hp) | exact List.mem_append.mpr (Or.inr hp) | refine List.mem_cons_of_mem _ ?_)) | (clear hAn9; k_all))
  k_with "eval Name" => (k_here; (with_reducible show wpAny _ _ (eval (Expr.Name _ _) (envOfC _ _ _ _ _)) _ _ _); k_dflt (refine' ldLoc ?zqF ?zqv ?_ ?zqa ?zqb ?zqc; (case zqa => rfl); (case zqb => rfl); (case zqc => decide); (case zqF => k_asm); (case zqv => assumption); k_whole))
  k_with "call ref" => (k_here; (with_reducible show wpAny _ _ (call (Value.ref 113) _) _ _ _); k_dflt (first | (refine' tellsN_callG (vector_new) ?zqkB ?zqkF ?zqkX ?zqkN ?zqkT ?zqkK ?zqkd ?zqku ?_; k_extra "CA"; k_extra "CB"; k_whole; intro x9Z d9Z q91Z q92Z q93Z q94Z q95Z hdx9Z h' tk' F' N' A'; k_extra "CE") | (refine' tellsN_callG (vector_new3) ?zqkB ?zqkF ?zqkX ?zqkN ?zqkT ?zqkK ?zqkd ?zqku ?_; k_extra "CA"; k_extra "CB"; k_whole; intro x9Z d9Z q91Z q92Z q93Z q94Z q95Z hdx9Z h' tk' F' N' A'; k_extra "CE")))
  k_with "call ref" => (k_here; (with_reducible show wpAny _ _ (call (Value.ref 793) _) _ _ _); k_dflt (refine' tells_callGU (card2_tells _ ?zqhI ?zqhlen ?zqhk0 ?zqhk1) ?zqkB ?zqkF ?zqkX ?zqkN ?zqkS ?zqkU ?zqkT ?zqkK ?zqkd ?zqku ?_; k_extra "CA"; (case zqhI => with_reducible assumption); (case zqkS => k_extra "SUK"); (case zqkU => k_updF); (case zqhlen => k_extra "AR"); (case zqhk0 => k_extra "AR"); (case zqhk1 => k_extra "AR"); k_extra "CB"; k_whole; intro r9Z t9Z u9Z n9Z m9Z hr0Z hr1Z hulZ hI9Z h' tk' F' N' A'; (try dsimp only at N'); k_extra "CE"))
  k_with "setItem ref str" => (k_here; k_dflt (refine' kda_set (knd := PySem.strKind _ _) ?zqF ?zqN ?zqU ?zqd (strKind_is _ _ _ _) ?zqz ?_; (case zqF => k_asm); (case zqN => k_asm); (case zqU => k_updF); (case zqd => k_asm); (case zqz => rw [sizeLine_eq]; omega)); intro h' o' F' N' hd'; (try dsimp only at N'))
  trivial
def lawElif : Stmt := match lawAt 4 with
  | .If _ _ o _ => o.headD (.Pass ⟨0, 0, 0, 0⟩)
  | _ => .Pass ⟨0, 0, 0, 0⟩
theorem plain_dim {n : Nat} (h : n ≤ 10) {t t' : Tok} : Plain [.int 2 t, .int (Int.fdiv (n : Int) 2) t'] := fun u hu => by
  rcases List.mem_cons.mp hu with rfl | hu
  · exact ⟨1, .inr ⟨rfl, by decide, by decide⟩⟩
  · rw [List.mem_singleton.mp hu, Int.fdiv_eq_ediv_of_nonneg _ (by decide)]
    exact ⟨1, .inr ⟨rfl, by omega, by omega⟩⟩
theorem plain_of {ys : List Value} {n : Nat} (hl : ys.length = n) (h : ∀ j, j < n → ∃ i, Okv i (ys.getD j .none)) : Plain ys := fun u hu => by
  obtain ⟨j, hj, e⟩ := List.mem_iff_getElem.mp hu
  have := h j (by omega)
  rw [List.getD_eq_getElem?_getD, List.getElem?_eq_getElem hj, e] at this
  exact this
theorem dress4n {w : World} {p : Program} {loose : List Str} {mean : ExcName → Option Value} {mg mb : Str → Option Value} {h₀ : Heap} {L fa : Addr} {cd : Value} {m : Str → Option Value} {s : Shared} {c da : Addr} {us : List Value} {ms : List Int} {n : Nat} {o oc : Obj} {el ne x d li n1 n2 : Nat} {t1 t2 t3 t4 t5 kt : Tok} {i : Nat} {sh lo : Value} {es : List Value} {E : Value → Shared → Prop} (B : Below callerA h₀ [] h₀) (X : (fragK.heap_1 w.params).In h₀) (T : Top p loose mean mg mb h₀) (F : Fr h₀ L s.heap m) (hm1 : m (Str.ofString "cards") = some (.ref c)) (hm2 : m (Str.ofString "dress") = some (.ref da)) (hm3 : m (Str.ofString "entries") = some (.ref el)) (N : News h₀ L s.heap [(da, o), (c, listOf us.toArray n), (el, listOf es.toArray ne), (x, instObj 113 d), (d, dictOf (vd w.params t1 t2 t3 t4 t5 (.str (kS i) kt) (.ref li) .none sh lo) n1), (li, listOf es.toArray n2), (L + 1, oc)]) (hD : o.IsDictOf (strKind PySem.Challenge.rw_pq1344_01.row.prog w) ([] : List (Str × Value))) (hI : IntsAre us ms) (hul : us.length ≤ 600) (hel : es.length ≤ 10) (hA1 : AllNe da [(c, listOf us.toArray n), (el, listOf es.toArray ne), (x, instObj 113 d), (d, dictOf (vd w.params t1 t2 t3 t4 t5 (.str (kS i) kt) (.ref li) .none sh lo) n1), (li, listOf es.toArray n2), (L + 1, oc)]) (hA2 : AllNe c [(el, listOf es.toArray ne), (x, instObj 113 d), (d, dictOf (vd w.params t1 t2 t3 t4 t5 (.str (kS i) kt) (.ref li) .none sh lo) n1), (li, listOf es.toArray n2), (L + 1, oc)]) :
    let e := (envOfC (Str.ofString "law") lawScope L fa cd); let A := callerA.deeper e; wpAny (model PySem.Challenge.rw_pq1344_01.row.prog w) A (exec lawElif e) (Wears w h₀ L m s c da [(el, listOf es.toArray ne), (x, instObj 113 d), (d, dictOf (vd w.params t1 t2 t3 t4 t5 (.str (kS i) kt) (.ref li) .none sh lo) n1), (li, listOf es.toArray n2), (L + 1, oc)] Ok4) E s := by
  refine wo ?_
  simp (disch :=
  k_dflt (
  refine wk ?_
  have eS : lawScope = ⟨_, _, _, _, _⟩ := rfl
  dsimp only at eS
  rw [eS]
  clear eS
  intro e9 A9
  show wpAny _ _ (exec (Stmt.If _ _ _ _) _) _ _ _
  (try k_fold)
  repeat' ((fail_if_success (with_reducible show Wears _ _ _ _ _ _ _ _ _ _ _)); (fail_if_success (with_reducible show wpAny _ _ (eval (Expr.ListComp _ _ _ _) _) _ _ _)); k_extra "S0"; k_extra "S1")
  · k_dflt (refine LCg.ListComp_U (F₀ := by k_asm) (by with_unfolding_all rfl) (by decide) (by rfl) (by decide) (by rfl) ?_)
    repeat' ((fail_if_success (with_reducible show LCg.CompSrc _ _ _ _ _ _ _ _ _ _ _ _ _ _)); k_extra "S0"; k_extra "S1")
    refine LCg.CompSrc.range (n := es.length) (by rfl) (by k_asm) (by k_asm) (by assumption) (rng_small (by omega) (by omega)) rng_size (by rw [sizeLine_eq]; omega) ?_
    intro g9
    refine cmp_rest (fun q v => ∃ i, Okv i v) ?turn ?fin
    case turn =>
      intro q v I oI C oC D m₂ ys h tk E' hq hv hC hx F₁ N₁ off ne
      obtain ⟨t9, rfl⟩ := hv
      repeat' (k_extra "S0"; k_extra "S1")
      ((try dsimp only); refine' cmpP_of ?F ?N ?q1 ?q2 ?q3 ?q4; (case F => k_asm); (case N => k_asm); (case q1 => k_extra "SUB"); (case q2 => assumption); (case q3 => exact True.intro); (case q4 => exact ⟨2, rfl⟩))
    case fin =>
      intro ys hys hG D h tk F₁ N₁ off
      have eL : LCg.lst ys = listOf ys.toArray ys.length := rfl
      rw [eL] at N₁
      have hoD := AllNe.of (off1_all off)
      clear off
      repeat' ((fail_if_success (with_reducible show Wears _ _ _ _ _ _ _ _ _ _ _)); k_extra "S0"; k_extra "S1")
      (try dsimp only)
      (rename IntsAre _ _ => hI9)
      (rename Obj.IsDictOf _ _ _ => zhd)
      exact wears_grow (as := []) ⟨Str.ofString "names", Str.ofString "character", _, _, _, _, _, _, _, _, _, _, _, _, _, _, ys⟩ (by k_asm) (by k_asm) (.inr ⟨_, rfl, plain_of hys hG, .inr ⟨rfl, (show ys.length ≤ 600 by omega)⟩⟩) (by k_mem) (by k_mem) (by k_extra "SUB") (fun _ z => nomatch z) (by k_mem) (by k_mem) (by k_mem) zhd hI9 (by assumption) hA1 hA2 (fun _ z => nomatch z) (AllNe.of (by k_extra "ALN")) (AllNe.of (by k_extra "ALN")) (AllNe.of (by k_extra "ALN"))
  · (try dsimp only)
    (rename IntsAre _ _ => hI9)
    exact wears_stay (as := []) (by k_asm) (by k_asm) (.inl rfl) (by k_mem) (by k_mem) (by k_extra "SUB") (fun _ z => nomatch z) hD hI9 (by assumption) hA1 hA2 (fun _ z => nomatch z)
  )) only [↓wt]
theorem dress4 {w : World} {p : Program} {loose : List Str} {mean : ExcName → Option Value} {mg mb : Str → Option Value} {h₀ : Heap} {L fa : Addr} {cd : Value} {m : Str → Option Value} {s : Shared} {c da : Addr} {us : List Value} {ms : List Int} {n : Nat} {o oc : Obj} {el ne x d li n1 n2 : Nat} {t1 t2 t3 t4 t5 kt : Tok} {i : Nat} {sh lo : Value} {es : List Value} {E : Value → Shared → Prop} (B : Below callerA h₀ [] h₀) (X : (fragK.heap_1 w.params).In h₀) (T : Top p loose mean mg mb h₀) (F : Fr h₀ L s.heap m) (hm1 : m (Str.ofString "cards") = some (.ref c)) (hm2 : m (Str.ofString "dress") = some (.ref da)) (hm3 : m (Str.ofString "entries") = some (.ref el)) (N : News h₀ L s.heap [(da, o), (c, listOf us.toArray n), (el, listOf es.toArray ne), (x, instObj 113 d), (d, dictOf (vd w.params t1 t2 t3 t4 t5 (.str (kS i) kt) (.ref li) .none sh lo) n1), (li, listOf es.toArray n2), (L + 1, oc)]) (hD : o.IsDictOf (strKind PySem.Challenge.rw_pq1344_01.row.prog w) ([] : List (Str × Value))) (hI : IntsAre us ms) (hul : us.length ≤ 600) (hel : es.length ≤ 10) (hA1 : AllNe da [(c, listOf us.toArray n), (el, listOf es.toArray ne), (x, instObj 113 d), (d, dictOf (vd w.params t1 t2 t3 t4 t5 (.str (kS i) kt) (.ref li) .none sh lo) n1), (li, listOf es.toArray n2), (L + 1, oc)]) (hA2 : AllNe c [(el, listOf es.toArray ne), (x, instObj 113 d), (d, dictOf (vd w.params t1 t2 t3 t4 t5 (.str (kS i) kt) (.ref li) .none sh lo) n1), (li, listOf es.toArray n2), (L + 1, oc)]) :
    let e := (envOfC (Str.ofString "law") lawScope L fa cd); let A := callerA.deeper e; wpAny (model PySem.Challenge.rw_pq1344_01.row.prog w) A (exec (lawAt 4) e) (Wears w h₀ L m s c da [(el, listOf es.toArray ne), (x, instObj 113 d), (d, dictOf (vd w.params t1 t2 t3 t4 t5 (.str (kS i) kt) (.ref li) .none sh lo) n1), (li, listOf es.toArray n2), (L + 1, oc)] Ok4) E s := by
  refine wo ?_
  simp (disch :=
  k_dflt (
  refine wk ?_
  have eS : lawScope = ⟨_, _, _, _, _⟩ := rfl
  dsimp only at eS
  rw [eS]
  clear eS
  intro e9 A9
  show wpAny _ _ (exec (Stmt.If _ _ _ _) _) _ _ _
  (try k_fold)
  walk1
  repeat' ((fail_if_success (with_reducible show Wears _ _ _ _ _ _ _ _ _ _ _)); (fail_if_success (with_reducible show wpAny _ _ (exec (Stmt.If _ _ _ _) _) _ _ _)); k_extra "S0"; k_extra "S1")
  · (try dsimp only)
    (rename IntsAre _ _ => hI9)
    (rename Obj.IsDictOf _ _ _ => zhd)
    exact wears_grow (as := []) ⟨Str.ofString "dim", Str.ofString "integer", _, _, _, _, _, _, _, _, _, _, _, _, _, _, [.int 2 _, .int (Int.fdiv (es.length : Int) 2) _]⟩ (by k_asm) (by k_asm) (.inr ⟨_, rfl, plain_dim hel, .inl ⟨rfl, rfl⟩⟩) (by k_mem) (by k_mem) (by k_extra "SUB") (fun _ z => nomatch z) (by k_mem) (by k_mem) (by k_mem) zhd hI9 (by assumption) hA1 hA2 (fun _ z => nomatch z) (AllNe.of (by k_extra "ALN")) (AllNe.of (by k_extra "ALN")) (AllNe.of (by k_extra "ALN"))
  all_goals
    (rename IntsAre _ _ => hI9)
    refine drawn (dress4n B X T (by k_asm) hm1 hm2 hm3 (by k_asm) hD hI9 (by assumption) hel hA1 hA2) ?_
    intro h tk o us ms n as g1 g2 g3 g4 g5 g6 g7 g8 g9
    repeat' ((fail_if_success (with_reducible show Wears _ _ _ _ _ _ _ _ _ _ _)); k_extra "S0"; k_extra "S1")
    exact fun P hP => hP h tk o us ms n as g1 g2 g3 g4 g5 g6 g7 g8 g9
  )) only [↓wt]
end
section
open PySem PySem.W PyProof.Rows PySem.Calls
set_option Elab.async false
set_option maxRecDepth 100000 
set_option maxHeartbeats 8000000 
theorem kwL3_0 : True := by
  k_with_none
  k_with "MEM" => first | (with_reducible exact List.mem_cons_self) | ((with_reducible refine List.mem_cons_of_mem _ ?_); k_extra "MEM")
  k_with "ENTER" => (refine' code_defP ?zqk1 ?zqk2 ?zqk3 ?zqk4 ?zqk5 ?zqkA ?zqkF ?zqkK ?zqk6 ?zqk7 ?zqk8 ?zqk9 ?zqkB ?_ ?zqc2 ?zqc3 ?zqc4 ?zqc5; (case zqkA => exact rfl); (case zqkF => exact rfl); (case zqkK => exact rfl); (case zqk1 => k_asm); (case zqk2 => k_asm); (case zqk3 => k_asm); (case zqk4 => k_asm); (case zqk5 => k_asm); (case zqk6 => k_is); (case zqk7 => k_is); (case zqk8 => k_room); (case zqk9 => first | exact BindsTo.of_eq rfl | exact binds_K (by k_in) rfl (by k_is) rfl rfl rfl); (case zqc5 => decide); (case zqkB => exact locs rfl); (case zqc2 => exact rfl); (case zqc3 => exact rfl); (case zqc4 => exact rfl); k_whole; intro g' L' h' Q' FG' F' N' B' X' T' hQ' e9 A9; (try dsimp only); (try k_lift B'); (try k_fold))
  k_with "S0" => ((fail_if_success (with_reducible show Post _ _ _ _ _ _ _ _)); (fail_if_success (with_reducible show LoopP _ _ _ _ _ _ _ _)); (fail_if_success (with_reducible show CmpP _ _ _ _ _ _ _ _ _ _ _ _ _ _ _)))
  k_with "S1" => first | (k_unfold; (try dsimp only)) | (k_end; wrow_close) | walk1 | (with_reducible refine hand (by assumption) ?_; try dsimp only) | (dsimp only; walk1) | (leave1; try dsimp only)
  k_with "ROOM" => first | (refine' room0 ?zqh ?zqe; (case zqh => assumption); (case zqe => exact rfl)) | (refine' room1 ?zqh ?zqe; (case zqh => assumption); (case zqe => exact rfl)) | (refine' room2 ?zqh ?zqe; (case zqh => assumption); (case zqe => exact rfl)) | (refine' room3 ?zqh ?zqe; (case zqh => assumption); (case zqe => exact rfl)) | (refine' roomz ?zqh; (case zqh => assumption)) | ktr_room
  k_with "UNITS" => first | (refine' room0 ?zqh ?zqe; (case zqh => assumption); (case zqe => exact rfl)) | (refine' room1 ?zqh ?zqe; (case zqh => assumption); (case zqe => exact rfl)) | (refine' room2 ?zqh ?zqe; (case zqh => assumption); (case zqe => exact rfl)) | (refine' room3 ?zqh ?zqe; (case zqh => assumption); (case zqe => exact rfl)) | exact lt_num rfl | ktr_units
  k_with "AR" => first | assumption | exact Nat.le_max_right _ _ | exact Nat.le_max_left _ _ | exact Nat.max_lt.mpr ⟨by assumption, by assumption⟩ | (refine' le_up ?zqh ?zqe; (case zqh => assumption); (case zqe => exact rfl)) | omega
  k_with "SUT" => first | exact sub_self | (refine sub_skip ?_; k_extra "SUT")
  k_with "SUK" => first | exact sub_nil | k_extra "SUT" | k_extra "SUB"
  k_with "KEEP" => first | (refine keep_hd (List.Mem.head _) ?_; k_extra "KEEP") | exact keep_of (by k_extra "SUK") | ((with_reducible refine' keep_cons ?zqkm ?_); (case zqkm => k_mem); k_extra "KEEP")
  k_with "APQ" => (rename Apart _ _ => h9; first | exact Apart.at h9 (by k_extra "MEM") (by k_extra "MEM") | exact ap_at h9 (by k_extra "MEM") (by k_extra "MEM") | (clear h9; k_extra "APQ"))
  k_with "ANQ" => (rename AllNe _ _ => h9; first | exact AllNe.at h9 (by k_extra "MEM") | exact an_at h9 (by k_extra "MEM") | (clear h9; k_extra "ANQ"))
  k_with "ALQ" => (rename AllLt _ _ => h9; first | exact lt_ne h9 (by k_extra "MEM") | exact lt_en h9 (by k_extra "MEM") | exact lt_ne2 h9 (by assumption) (by k_extra "MEM") | exact lt_en2 h9 (by assumption) (by k_extra "MEM") | (clear h9; k_extra "ALQ"))
  k_with "NEQ" => first | assumption | exact Ne.symm (by assumption) | exact Nat.ne_of_lt (by assumption) | exact Nat.ne_of_gt (by assumption) | k_extra "ALQ" | k_extra "ANQ" | k_extra "APQ" | omega
  k_with "APS" => (rename Apart _ _ => h9; first | exact Apart.subA h9 rfl (by k_extra "SUK") | (clear h9; k_extra "APS"))
  k_with "NE1" => (refine neN ?_; (try dsimp only); k_extra "NEQ")
  k_with "ALL" => first | exact all_nil | (rename AllLt _ _ => h9; exact lt_sub h9 (by k_extra "SUT")) | (refine' all_cons ?zqa ?zqb; (case zqa => k_ne); (case zqb => k_all))
  k_with "ALN" => first | exact ne_nil | (refine ne_cons ?_ ?_; (focus ((try dsimp only); k_extra "NEQ")); k_extra "ALN")
  k_with "APM" => first | exact ap_nil | k_extra "APS" | (refine ap_cons ?_ ?_; (focus k_extra "ALN"); k_extra "APM")
  k_with "CA" => ((case zqkB => k_asm); (case zqkF => k_asm); (case zqkX => k_asm); (case zqkN => k_asm))
  k_with "CB" => ((case zqkT => k_asm); (case zqkK => first | exact rfl | assumption); (case zqkd => k_extra "ROOM"); (case zqku => k_extra "UNITS"))
  k_with "CE" => all_goals ((try ((with_reducible rename News _ _ _ _ => h9); simp only [List.nil_append, List.cons_append] at h9)); (try ((with_reducible rename Apart [] _ => h7); clear h7)); (try dsimp only [Option.getD_some, Option.getD_none]); (try k_sweep); (try k_fold))
  k_with "CZ" => all_goals ((try dsimp only [Option.getD_some, Option.getD_none]); (try k_sweep); (try k_fold))
  k_with "call builtin:len" => (k_here; (with_reducible show wpAny _ _ (call (Value.builtin "len") [Value.ref _]) _ _ _); k_dflt (refine' len_sym ?zqk1 ?zqk2 ?zqk3 ?_; (case zqk1 => k_asm); (case zqk2 => k_mem); (case zqk3 => k_extra "AR"); k_whole))
  k_with "getMethod ref" => (k_here; (with_reducible show wpAny _ _ (getMethod (Value.ref _) (PySem.Str.ofString "get") _) _ _ _); k_dflt (refine' get_method ?zqk1 ?zqk2 ?zqk3 ?_; (case zqk1 => k_asm); (case zqk2 => k_mem); (case zqk3 => with_reducible assumption); k_whole))
  k_with "call builtin:dict.get" => (k_here; (with_reducible show wpAny _ _ (call (Value.builtin "dict.get") [Value.ref _, Value.str _ _]) _ _ _); k_dflt (refine' get_call ?zqk0 ?zqk1 ?zqk2 ?zqk3 ?_; (case zqk1 => k_asm); (case zqk2 => k_mem); (case zqk3 => with_reducible assumption); (case zqk0 => with_reducible assumption); k_whole))
  k_with "LOCA" => first | exact LocArgs.nil | (refine' LocArgs.cons ?zqlk ?zqld ?zqlv ?zqlt; (case zqlk => kernel_rfl!); (case zqld => kernel_rfl); (case zqlv => first | rfl | assumption); (case zqlt => k_extra "LOCA"))
  k_with "eval Call" => (k_here; (with_reducible show wpAny _ _ (eval (Expr.Call (Expr.Name _ _) (Expr.Name _ _ :: _) [] _) _) _ _ _); first | ((with_reducible refine' callO_loc ?zqF ?zqX ?zqT ?zqe ?zqk ?zqa ?zqb ?zqc ?zql ?_); k_dflt ((case zqF => k_asm); (case zqX => k_asm); (case zqT => k_asm); (case zqa => exact rfl); (case zqb => kernel_rfl!); (case zqc => kernel_rfl); (case zqe => k_is); (case zqk => k_is); (case zql => k_extra "LOCA"); k_whole)) | ((with_reducible refine' callC_loc ?zqF ?zqX ?zqT ?zqe ?zqk ?zqa ?zqb ?zqc ?zql ?_); k_dflt ((case zqF => k_asm); (case zqX => k_asm); (case zqT => k_asm); (case zqa => exact rfl); (case zqb => kernel_rfl!); (case zqc => kernel_rfl); (case zqe => k_is); (case zqk => k_is); (case zql => k_extra "LOCA"); k_whole)))
  k_with "eval Attribute Name" => (k_here; (with_reducible refine' attrO_loc ?zqF ?zqv ?zqa ?zqb ?zqc ?_); k_dflt ((case zqF => k_asm); (case zqa => exact rfl); (case zqb => kernel_rfl!); (case zqc => kernel_rfl); (case zqv => first | rfl | assumption); k_whole))
  k_with "ite" => (k_here; first | (k_closed; first | ((with_reducible refine ite_pos ?zqk2 ?_); k_dflt (case zqk2 => decide)) | ((with_reducible refine ite_neg ?zqk2 ?_); k_dflt (case zqk2 => decide))) | (refine' ite_bf ?zqk1 ?_; (case zqk1 => first | assumption | exact decide_eq_false (by omega) | exact beq_eq_false_iff_ne.mpr (by omega))) | (refine' ite_bt ?zqk1 ?_; (case zqk1 => first | assumption | exact decide_eq_true (by omega) | exact beq_iff_eq.mpr (by omega))))
  k_with "call type:dict" => (k_here; (with_reducible show wpAny _ _ (call (Value.type "dict") [Value.ref _]) _ _ _); k_dflt (refine' dict_copyK ?zqF ?zqN ?zqb ?zqm ?zqD ?zql ?zqz ?_; (case zqF => k_asm); (case zqN => k_asm); (case zqb => exact Top.nolimit (by k_asm)); (case zqm => k_mem); (case zqD => with_reducible assumption); (case zql => with_reducible assumption); (case zqz => omega); k_whole); intro d' h' o' F' N' l1 lo' hd'; (try k_lt l1))
  k_with "eval Name" => (k_here; first | ((with_reducible refine' nameO_L ?zqF ?zqv ?_ ?zqa ?zqb ?zqc); k_dflt ((case zqF => k_asm); (case zqa => exact rfl); (case zqb => kernel_rfl!); (case zqc => kernel_rfl); (case zqv => first | rfl | assumption); k_whole)) | ((with_reducible refine' nameO_K ?zqF ?zqX ?zqT ?zqe ?_ ?zqa ?zqb ?zqc); k_dflt ((case zqF => k_asm); (case zqX => k_asm); (case zqT => k_asm); (case zqa => exact rfl); (case zqb => kernel_rfl!); (case zqc => kernel_rfl); (case zqe => k_is); k_whole)) | ((with_reducible refine' nameC_L ?zqF ?zqv ?_ ?zqa ?zqb ?zqc); k_dflt ((case zqF => k_asm); (case zqa => exact rfl); (case zqb => kernel_rfl!); (case zqc => kernel_rfl); (case zqv => first | rfl | assumption); k_whole)) | ((with_reducible refine' nameC_K ?zqF ?zqX ?zqT ?zqe ?_ ?zqa ?zqb ?zqc); k_dflt ((case zqF => k_asm); (case zqX => k_asm); (case zqT => k_asm); (case zqa => exact rfl); (case zqb => kernel_rfl!); (case zqc => kernel_rfl); (case zqe => k_is); k_whole)))
  trivial
theorem kwL3_1 : True := by
  k_with "SUB" => first | exact sub_nil | ((with_reducible refine' sub_cons ?zqsm ?_); (case zqsm => k_mem); k_extra "SUB") | (refine sub_app ?_ ?_; (focus k_extra "SUB"); k_extra "SUB") | k_extra "SUT" | (intro p9 hp9; repeat' (first | exact hp9 | refine List.mem_cons_of_mem _ ?_ | exact List.mem_append.mpr (Or.inl hp9) | refine List.mem_append.mpr (Or.inr ?_)))
  k_with "OWN" => (intro p9 hp9; repeat' (first | exact hp9 | refine List.mem_cons_of_mem _ ?_ | exact List.mem_append.mpr (Or.inl hp9) | refine List.mem_append.mpr (Or.inr ?_)))
  k_with "ALL" => ((rename AllNe _ _ => hAn9); first | (refine AllNe.all ?_; exact hAn9) | (refine fun p hp => AllNe.all hAn9 p ?_; repeat' (first | exact hp | exact List.mem_append.mpr (Or.inl hp) | exact List.mem_append.mpr (Or.inr hp) | refine List.mem_cons_of_mem _ ?_)) | (clear hAn9; k_all))
  k_with "eval Name" => (k_here; (with_reducible show wpAny _ _ (eval (Expr.Name _ _) (envOfC _ _ _ _ _)) _ _ _); k_dflt (refine' ldLoc ?zqF ?zqv ?_ ?zqa ?zqb ?zqc; (case zqa => rfl); (case zqb => rfl); (case zqc => decide); (case zqF => k_asm); (case zqv => assumption); k_whole))
  k_with "compareOp NotEq ref ref" => (k_here; (with_reducible show wpAny _ _ (compareOp CmpOp.NotEq (Value.ref _) (Value.ref _)) _ _ _); k_dflt (refine' dict_lens (kb := []) ?zqN ?zqpa ?zqpb ?zqda ?zqdb ?zqla ?zqlb rfl ?zqhu ?_; (case zqN => k_asm); (case zqpa => k_mem); (case zqpb => k_mem); (case zqda => assumption); (case zqdb => assumption); (case zqla => assumption); (case zqlb => assumption); (case zqhu => k_extra "UNITS"); k_whole))
  trivial
theorem news_subK {h₀ h : Heap} {L : Addr} {news nw : List (Addr × Obj)} (N : News h₀ L h news) (hs : ∀ q ∈ nw, q ∈ news) : News h₀ L h nw := fun q hq => N q (hs q hq)
def Dressed (w : World) (h₀ : Heap) (L : Addr) (m : Str → Option Value) (s₀ : Shared) (led : Value → Nat → List (Addr × Obj)) (da : Addr) (as : List Att) (fl : Flow) (s' : Shared) : Prop :=
  ∀ P : Flow → Shared → Prop, (∀ h tk av n1, Fr h₀ L h m → News h₀ L h (led av n1) → ((av = .none ∧ as = []) ∨ av = .ref da) → P .next { s₀ with heap := h, toks := tk }) → P fl s'
theorem dress7 {w : World} {p : Program} {loose : List Str} {mean : ExcName → Option Value} {mg mb : Str → Option Value} {h₀ : Heap} {L fa : Addr} {cd : Value} {m : Str → Option Value} {s : Shared} {c da : Addr} {us : List Value} {n : Nat} {o oc : Obj} {as : List Att} {el ne x d li n1 n2 : Nat} {t1 t2 t3 t4 t5 kt : Tok} {i : Nat} {sh lo : Value} {es : List Value} {E : Value → Shared → Prop} (B : Below callerA h₀ [] h₀) (X : (fragK.heap_1 w.params).In h₀) (T : Top p loose mean mg mb h₀) (F : Fr h₀ L s.heap m) (hm1 : m (Str.ofString "v") = some (.ref x)) (hm2 : m (Str.ofString "dress") = some (.ref da)) (N : News h₀ L s.heap ((da, o) :: (c, listOf us.toArray n) :: (el, listOf es.toArray ne) :: (x, instObj 113 d) :: (d, dictOf (vd w.params t1 t2 t3 t4 t5 (.str (kS i) kt) (.ref li) .none sh lo) n1) :: (li, listOf es.toArray n2) :: (L + 1, oc) :: attLed w as)) (hD : o.IsDictOf (strKind PySem.Challenge.rw_pq1344_01.row.prog w) (attKvs as)) (hlo : (da == sysModules) = false) (hA1 : AllNe d ((da, o) :: (c, listOf us.toArray n) :: (el, listOf es.toArray ne) :: (x, instObj 113 d) :: [])) (hA2 : AllNe d ((li, listOf es.toArray n2) :: (L + 1, oc) :: attLed w as)) :
    let e := (envOfC (Str.ofString "law") lawScope L fa cd); let A := callerA.deeper e; wpAny (model PySem.Challenge.rw_pq1344_01.row.prog w) A (exec (lawAt 7) e) (Dressed w h₀ L m s (fun av n1 => ((da, o) :: (c, listOf us.toArray n) :: (el, listOf es.toArray ne) :: (x, instObj 113 d) :: (d, dictOf (vd w.params t1 t2 t3 t4 t5 (.str (kS i) kt) (.ref li) av sh lo) n1) :: (li, listOf es.toArray n2) :: (L + 1, oc) :: attLed w as)) da as) E s := by
  refine wo ?_
  simp (disch :=
  k_dflt (
  refine wk ?_
  have eS : lawScope = ⟨_, _, _, _, _⟩ := rfl
  dsimp only at eS
  rw [eS]
  clear eS
  intro e9 A9
  show wpAny _ _ (exec (Stmt.If _ _ _ _) _) _ _ _
  (try k_fold)
  rcases as.eq_nil_or_concat with h9 | ⟨r9, a9, h9⟩
  · have hb : (!decide (attKvs as = [])) = false := by rw [h9]; rfl
    repeat' ((fail_if_success (with_reducible show Dressed _ _ _ _ _ _ _ _ _ _)); k_extra "S0"; k_extra "S1")
    exact fun P hP => hP _ _ .none _ (by k_asm) (news_subK (by k_asm) (by k_extra "SUB")) (.inl ⟨rfl, h9⟩)
  · have hb : (!decide (attKvs as = [])) = true := by rw [h9]; simp [attKvs]
    repeat' ((fail_if_success (with_reducible show Dressed _ _ _ _ _ _ _ _ _ _)); k_extra "S0"; k_extra "S1")
    refine' set_dict (es' := vd w.params t1 t2 t3 t4 t5 (.str (kS i) kt) (.ref li) (.ref da) sh lo) (n' := n1) ?k1 ?k2 ?k3 ?k4 ?k5 ?k6 ?k7 ?k8 ?k9 ?k10 ?k11 ?k12 ?k13 ?_; (case k1 => k_asm); (case k2 => k_asm); (case k3 => k_asm); (case k4 => k_inst); (case k5 => exact rfl); (case k6 => k_is); (case k7 => k_is); (case k8 => k_is); (case k9 => k_is); (case k10 => k_get); (case k11 => with_unfolding_all exact rfl); (case k12 => k_upd); (case k13 => exact Nat.le_of_ble_eq_true rfl)
    intro h' F' N'
    repeat' ((fail_if_success (with_reducible show Dressed _ _ _ _ _ _ _ _ _ _)); k_extra "S0"; k_extra "S1")
    exact fun P hP => hP _ _ (.ref da) _ (by k_asm) (news_subK (by k_asm) (by k_extra "SUB")) (.inr rfl)
  )) only [↓wt]
end
section
open PySem PySem.W PyProof.Rows PySem.Calls
set_option Elab.async false
set_option maxRecDepth 100000 
set_option maxHeartbeats 8000000 
theorem kwF1_0 : True := by
  k_with_none
  k_with "MEM" => first | (with_reducible exact List.mem_cons_self) | ((with_reducible refine List.mem_cons_of_mem _ ?_); k_extra "MEM")
  k_with "ENTER" => (refine' code_defP ?zqk1 ?zqk2 ?zqk3 ?zqk4 ?zqk5 ?zqkA ?zqkF ?zqkK ?zqk6 ?zqk7 ?zqk8 ?zqk9 ?zqkB ?_ ?zqc2 ?zqc3 ?zqc4 ?zqc5; (case zqkA => exact rfl); (case zqkF => exact rfl); (case zqkK => exact rfl); (case zqk1 => k_asm); (case zqk2 => k_asm); (case zqk3 => k_asm); (case zqk4 => k_asm); (case zqk5 => k_asm); (case zqk6 => k_is); (case zqk7 => k_is); (case zqk8 => k_room); (case zqk9 => first | exact BindsTo.of_eq rfl | exact binds_K (by k_in) rfl (by k_is) rfl rfl rfl); (case zqc5 => decide); (case zqkB => exact locs rfl); (case zqc2 => exact rfl); (case zqc3 => exact rfl); (case zqc4 => exact rfl); k_whole; intro g' L' h' Q' FG' F' N' B' X' T' hQ' e9 A9; (try dsimp only); (try k_lift B'); (try k_fold))
  k_with "S0" => ((fail_if_success (with_reducible show Post _ _ _ _ _ _ _ _)); (fail_if_success (with_reducible show LoopP _ _ _ _ _ _ _ _)); (fail_if_success (with_reducible show CmpP _ _ _ _ _ _ _ _ _ _ _ _ _ _ _)))
  k_with "S1" => first | (k_unfold; (try dsimp only)) | (k_end; wrow_close) | walk1 | (with_reducible refine hand (by assumption) ?_; try dsimp only) | (dsimp only; walk1) | (leave1; try dsimp only)
  k_with "ROOM" => first | (refine' room0 ?zqh ?zqe; (case zqh => assumption); (case zqe => exact rfl)) | (refine' room1 ?zqh ?zqe; (case zqh => assumption); (case zqe => exact rfl)) | (refine' room2 ?zqh ?zqe; (case zqh => assumption); (case zqe => exact rfl)) | (refine' room3 ?zqh ?zqe; (case zqh => assumption); (case zqe => exact rfl)) | (refine' roomz ?zqh; (case zqh => assumption)) | ktr_room
  k_with "UNITS" => first | (refine' room0 ?zqh ?zqe; (case zqh => assumption); (case zqe => exact rfl)) | (refine' room1 ?zqh ?zqe; (case zqh => assumption); (case zqe => exact rfl)) | (refine' room2 ?zqh ?zqe; (case zqh => assumption); (case zqe => exact rfl)) | (refine' room3 ?zqh ?zqe; (case zqh => assumption); (case zqe => exact rfl)) | exact lt_num rfl | ktr_units
  k_with "AR" => first | assumption | exact Nat.le_max_right _ _ | exact Nat.le_max_left _ _ | exact Nat.max_lt.mpr ⟨by assumption, by assumption⟩ | (refine' le_up ?zqh ?zqe; (case zqh => assumption); (case zqe => exact rfl)) | omega
  k_with "SUT" => first | exact sub_self | (refine sub_skip ?_; k_extra "SUT")
  k_with "SUK" => first | exact sub_nil | k_extra "SUT" | k_extra "SUB"
  k_with "KEEP" => first | (refine keep_hd (List.Mem.head _) ?_; k_extra "KEEP") | exact keep_of (by k_extra "SUK") | ((with_reducible refine' keep_cons ?zqkm ?_); (case zqkm => k_mem); k_extra "KEEP")
  k_with "APQ" => (rename Apart _ _ => h9; first | exact Apart.at h9 (by k_extra "MEM") (by k_extra "MEM") | exact ap_at h9 (by k_extra "MEM") (by k_extra "MEM") | (clear h9; k_extra "APQ"))
  k_with "ANQ" => (rename AllNe _ _ => h9; first | exact AllNe.at h9 (by k_extra "MEM") | exact an_at h9 (by k_extra "MEM") | (clear h9; k_extra "ANQ"))
  k_with "ALQ" => (rename AllLt _ _ => h9; first | exact lt_ne h9 (by k_extra "MEM") | exact lt_en h9 (by k_extra "MEM") | exact lt_ne2 h9 (by assumption) (by k_extra "MEM") | exact lt_en2 h9 (by assumption) (by k_extra "MEM") | (clear h9; k_extra "ALQ"))
  k_with "NEQ" => first | assumption | exact Ne.symm (by assumption) | exact Nat.ne_of_lt (by assumption) | exact Nat.ne_of_gt (by assumption) | k_extra "ALQ" | k_extra "ANQ" | k_extra "APQ" | omega
  k_with "APS" => (rename Apart _ _ => h9; first | exact Apart.subA h9 rfl (by k_extra "SUK") | (clear h9; k_extra "APS"))
  k_with "NE1" => (refine neN ?_; (try dsimp only); k_extra "NEQ")
  k_with "ALL" => first | exact all_nil | (rename AllLt _ _ => h9; exact lt_sub h9 (by k_extra "SUT")) | (refine' all_cons ?zqa ?zqb; (case zqa => k_ne); (case zqb => k_all))
  k_with "ALN" => first | exact ne_nil | (refine ne_cons ?_ ?_; (focus ((try dsimp only); k_extra "NEQ")); k_extra "ALN")
  k_with "APM" => first | exact ap_nil | k_extra "APS" | (refine ap_cons ?_ ?_; (focus k_extra "ALN"); k_extra "APM")
  k_with "CA" => ((case zqkB => k_asm); (case zqkF => k_asm); (case zqkX => k_asm); (case zqkN => k_asm))
  k_with "CB" => ((case zqkT => k_asm); (case zqkK => first | exact rfl | assumption); (case zqkd => k_extra "ROOM"); (case zqku => k_extra "UNITS"))
  k_with "CE" => all_goals ((try ((with_reducible rename News _ _ _ _ => h9); simp only [List.nil_append, List.cons_append] at h9)); (try ((with_reducible rename Apart [] _ => h7); clear h7)); (try dsimp only [Option.getD_some, Option.getD_none]); (try k_sweep); (try k_fold))
  k_with "CZ" => all_goals ((try dsimp only [Option.getD_some, Option.getD_none]); (try k_sweep); (try k_fold))
  k_with "call builtin:len" => (k_here; (with_reducible show wpAny _ _ (call (Value.builtin "len") [Value.ref _]) _ _ _); k_dflt (refine' len_sym ?zqk1 ?zqk2 ?zqk3 ?_; (case zqk1 => k_asm); (case zqk2 => k_mem); (case zqk3 => k_extra "AR"); k_whole))
  k_with "getMethod ref" => (k_here; (with_reducible show wpAny _ _ (getMethod (Value.ref _) (PySem.Str.ofString "get") _) _ _ _); k_dflt (refine' get_method ?zqk1 ?zqk2 ?zqk3 ?_; (case zqk1 => k_asm); (case zqk2 => k_mem); (case zqk3 => with_reducible assumption); k_whole))
  k_with "call builtin:dict.get" => (k_here; (with_reducible show wpAny _ _ (call (Value.builtin "dict.get") [Value.ref _, Value.str _ _]) _ _ _); k_dflt (refine' get_call ?zqk0 ?zqk1 ?zqk2 ?zqk3 ?_; (case zqk1 => k_asm); (case zqk2 => k_mem); (case zqk3 => with_reducible assumption); (case zqk0 => with_reducible assumption); k_whole))
  k_with "LOCA" => first | exact LocArgs.nil | (refine' LocArgs.cons ?zqlk ?zqld ?zqlv ?zqlt; (case zqlk => kernel_rfl!); (case zqld => kernel_rfl); (case zqlv => first | rfl | assumption); (case zqlt => k_extra "LOCA"))
  k_with "eval Call" => (k_here; (with_reducible show wpAny _ _ (eval (Expr.Call (Expr.Name _ _) (Expr.Name _ _ :: _) [] _) _) _ _ _); first | ((with_reducible refine' callO_loc ?zqF ?zqX ?zqT ?zqe ?zqk ?zqa ?zqb ?zqc ?zql ?_); k_dflt ((case zqF => k_asm); (case zqX => k_asm); (case zqT => k_asm); (case zqa => exact rfl); (case zqb => kernel_rfl!); (case zqc => kernel_rfl); (case zqe => k_is); (case zqk => k_is); (case zql => k_extra "LOCA"); k_whole)) | ((with_reducible refine' callC_loc ?zqF ?zqX ?zqT ?zqe ?zqk ?zqa ?zqb ?zqc ?zql ?_); k_dflt ((case zqF => k_asm); (case zqX => k_asm); (case zqT => k_asm); (case zqa => exact rfl); (case zqb => kernel_rfl!); (case zqc => kernel_rfl); (case zqe => k_is); (case zqk => k_is); (case zql => k_extra "LOCA"); k_whole)))
  k_with "eval Attribute Name" => (k_here; (with_reducible refine' attrO_loc ?zqF ?zqv ?zqa ?zqb ?zqc ?_); k_dflt ((case zqF => k_asm); (case zqa => exact rfl); (case zqb => kernel_rfl!); (case zqc => kernel_rfl); (case zqv => first | rfl | assumption); k_whole))
  k_with "ite" => (k_here; first | (k_closed; first | ((with_reducible refine ite_pos ?zqk2 ?_); k_dflt (case zqk2 => decide)) | ((with_reducible refine ite_neg ?zqk2 ?_); k_dflt (case zqk2 => decide))) | (refine' ite_bf ?zqk1 ?_; (case zqk1 => first | assumption | exact decide_eq_false (by omega) | exact beq_eq_false_iff_ne.mpr (by omega))) | (refine' ite_bt ?zqk1 ?_; (case zqk1 => first | assumption | exact decide_eq_true (by omega) | exact beq_iff_eq.mpr (by omega))))
  k_with "call type:dict" => (k_here; (with_reducible show wpAny _ _ (call (Value.type "dict") [Value.ref _]) _ _ _); k_dflt (refine' dict_copyK ?zqF ?zqN ?zqb ?zqm ?zqD ?zql ?zqz ?_; (case zqF => k_asm); (case zqN => k_asm); (case zqb => exact Top.nolimit (by k_asm)); (case zqm => k_mem); (case zqD => with_reducible assumption); (case zql => with_reducible assumption); (case zqz => omega); k_whole); intro d' h' o' F' N' l1 lo' hd'; (try k_lt l1))
  k_with "eval Name" => (k_here; first | ((with_reducible refine' nameO_L ?zqF ?zqv ?_ ?zqa ?zqb ?zqc); k_dflt ((case zqF => k_asm); (case zqa => exact rfl); (case zqb => kernel_rfl!); (case zqc => kernel_rfl); (case zqv => first | rfl | assumption); k_whole)) | ((with_reducible refine' nameO_K ?zqF ?zqX ?zqT ?zqe ?_ ?zqa ?zqb ?zqc); k_dflt ((case zqF => k_asm); (case zqX => k_asm); (case zqT => k_asm); (case zqa => exact rfl); (case zqb => kernel_rfl!); (case zqc => kernel_rfl); (case zqe => k_is); k_whole)) | ((with_reducible refine' nameC_L ?zqF ?zqv ?_ ?zqa ?zqb ?zqc); k_dflt ((case zqF => k_asm); (case zqa => exact rfl); (case zqb => kernel_rfl!); (case zqc => kernel_rfl); (case zqv => first | rfl | assumption); k_whole)) | ((with_reducible refine' nameC_K ?zqF ?zqX ?zqT ?zqe ?_ ?zqa ?zqb ?zqc); k_dflt ((case zqF => k_asm); (case zqX => k_asm); (case zqT => k_asm); (case zqa => exact rfl); (case zqb => kernel_rfl!); (case zqc => kernel_rfl); (case zqe => k_is); k_whole)))
  trivial
def lawKeep : List Str := [Str.ofString "v", Str.ofString "value", Str.ofString "places", Str.ofString "empty_one", Str.ofString "others", Str.ofString "sort_of", Str.ofString "other_sort", Str.ofString "entries", Str.ofString "held", Str.ofString "kinds", Str.ofString "indexes"]
/-- what a piece of the loop's body hands on -/
def Kept (m m' : Str → Option Value) : Prop := ∀ k ∈ lawKeep, m' k = m k
theorem Kept.of {m m' : Str → Option Value} (h1 : m' (Str.ofString "v") = m (Str.ofString "v")) (h2 : m' (Str.ofString "value") = m (Str.ofString "value")) (h3 : m' (Str.ofString "places") = m (Str.ofString "places")) (h4 : m' (Str.ofString "empty_one") = m (Str.ofString "empty_one")) (h5 : m' (Str.ofString "others") = m (Str.ofString "others")) (h6 : m' (Str.ofString "sort_of") = m (Str.ofString "sort_of")) (h7 : m' (Str.ofString "other_sort") = m (Str.ofString "other_sort")) (h8 : m' (Str.ofString "entries") = m (Str.ofString "entries")) (h9 : m' (Str.ofString "held") = m (Str.ofString "held")) (h10 : m' (Str.ofString "kinds") = m (Str.ofString "kinds")) (h11 : m' (Str.ofString "indexes") = m (Str.ofString "indexes")) : Kept m m' := by
  intro k hk
  simp only [lawKeep, List.mem_cons, List.not_mem_nil, or_false] at hk
  rcases hk with rfl | rfl | rfl | rfl | rfl | rfl | rfl | rfl | rfl | rfl | rfl <;> assumption
def Turned (h₀ : Heap) (L : Addr) (m : Str → Option Value) (s₀ : Shared) (rest : List (Addr × Obj)) (fl : Flow) (s' : Shared) : Prop :=
  fl = .next ∧ ∃ h tk m' oc ov, s' = { s₀ with heap := h, toks := tk } ∧ Fr h₀ L h m' ∧ oc.data = .cell ov ∧ News h₀ L h ((L + 1, oc) :: rest) ∧ Kept m m'
theorem turned_of {h₀ : Heap} {L : Addr} {m m' : Str → Option Value} {s₀ : Shared} {rest all : List (Addr × Obj)} {h : Heap} {tk : Nat} {oc : Obj} {ov : Option Value} (F : Fr h₀ L h m') (N : News h₀ L h all) (hm : (L + 1, oc) ∈ all) (hd : oc.data = .cell ov) (hs : ∀ q ∈ rest, q ∈ all) (K : Kept m m') : Turned h₀ L m s₀ rest .next { s₀ with heap := h, toks := tk } :=
  ⟨rfl, h, tk, m', oc, ov, rfl, F, hd, fun q hq => (List.mem_cons.mp hq).elim (fun e => N q (e ▸ hm)) fun hq => N q (hs q hq), K⟩
theorem Kept.trans {a b c : Str → Option Value} (h : Kept a b) (h' : Kept b c) : Kept a c := fun k hk => (h' k hk).trans (h k hk)
def Said (h₀ : Heap) (L : Addr) (m : Str → Option Value) (s₀ : Shared) (rest : List (Addr × Obj)) (fl : Flow) (s' : Shared) : Prop := fl = .next ∧ ∃ h tk, s' = { s₀ with heap := h, toks := tk } ∧ Fr h₀ L h m ∧ News h₀ L h rest
def lawForAt (k : Nat) : Stmt := lawFor.getD k (.Pass ⟨0, 0, 0, 0⟩)
def lawElse : List Stmt := match lawForAt 1 with
  | .If _ _ o _ => o
  | _ => []
theorem kwF1_1 : True := by
  k_with "SUB" => first | exact sub_nil | ((with_reducible refine' sub_cons ?zqsm ?_); (case zqsm => k_mem); k_extra "SUB") | (refine sub_app ?_ ?_; (focus k_extra "SUB"); k_extra "SUB") | k_extra "SUT" | (intro p9 hp9; repeat' (first | exact hp9 | refine List.mem_cons_of_mem _ ?_ | exact List.mem_append.mpr (Or.inl hp9) | refine List.mem_append.mpr (Or.inr ?_)))
  k_with "OWN" => (intro p9 hp9; repeat' (first | exact hp9 | refine List.mem_cons_of_mem _ ?_ | exact List.mem_append.mpr (Or.inl hp9) | refine List.mem_append.mpr (Or.inr ?_)))
  k_with "ALL" => ((rename AllNe _ _ => hAn9); first | (refine AllNe.all ?_; exact hAn9) | (refine fun p hp => AllNe.all hAn9 p ?_; repeat' (first | exact hp | exact List.mem_append.mpr (Or.inl hp) | exact List.mem_append.mpr (Or.inr hp) | refine List.mem_cons_of_mem _ ?_)) | (clear hAn9; k_all))
  k_with "eval Name" => (k_here; (with_reducible show wpAny _ _ (eval (Expr.Name _ _) (envOfC _ _ _ _ _)) _ _ _); k_dflt (refine' ldLoc ?zqF ?zqv ?_ ?zqa ?zqb ?zqc; (case zqa => rfl); (case zqb => rfl); (case zqc => decide); (case zqF => k_asm); (case zqv => assumption); k_whole))
  k_with "call ref" => (k_here; (with_reducible show wpAny _ _ (call (Value.ref 810) _) _ _ _); k_dflt (refine' tells_callG (seen_tells (Hav.out ?zqhav)) ?zqkB ?zqkF ?zqkX ?zqkN ?zqkS ?zqkT ?zqkK ?zqkd ?zqku ?_; k_extra "CA"; (case zqhav => with_reducible assumption); (case zqkS => k_extra "SUK"); k_extra "CB"; k_whole; intro D9Z oD9Z out9Z nx9Z hD9Z hSn9Z hlo9Z h' tk' F' N' A'; replace N' := news_rot N'; (try simp only [List.cons_append, List.append_assoc] at N'); k_extra "CE"))
  k_with "compareOp Eq ref ref" => (k_here; (with_reducible show wpAny _ _ (compareOp CmpOp.Eq (Value.ref _) (Value.ref _)) _ _ _); k_dflt (first | (refine' eq_lists_len (vs := []) ?zqN ?zqa ?zqb ?zqh ?zqu ?_; (case zqN => k_asm); (case zqa => k_mem); (case zqb => k_mem); (case zqh => (have z9 : ([] : List Value).length = 0 := rfl; rw [z9]; omega)); (case zqu => k_extra "UNITS"); k_whole) | (refine' eq_lists (vs := []) ?zqN ?zqa ?zqb ?zqh ?zqu ?_; (case zqN => k_asm); (case zqa => k_mem); (case zqb => k_mem); (case zqh => exact SameL.nil_of (by omega)); (case zqu => k_extra "UNITS"); k_whole)))
  k_with "SAME" => first | assumption | exact rs_nil (by assumption) (by omega) | exact nts_no (by assumption) (by omega) | exact nts_yes (by assumption) (by omega) (by assumption) | exact SameL.okv (by assumption) | exact SameL.nil | exact SameL.nil_of (by omega)
  k_with "compareOp NotEq ref ref" => (k_here; (with_reducible show wpAny _ _ (compareOp CmpOp.NotEq (Value.ref _) (Value.ref _)) _ _ _); k_dflt (first | (refine' ne_trips ?zqN ?zqnd ?zqpl ?zqh1 ?zqh2 ?zqx1 ?zqx2 ?zqd1 ?zqd2 ?zqD1 ?zqD2 ?zqlo1 ?zqlo2 ?zqa ?zqb ?zql ?zqk ?zqs ?zqu ?_; (case zqN => k_asm); (case zqa => k_mem); (case zqb => k_mem); (case zql => k_mem); (case zqk => k_mem); (case zqd1 => k_mem); (case zqd2 => k_mem); (case zqD1 => assumption); (case zqD2 => assumption); (case zqh1 => assumption); (case zqh2 => assumption); (case zqnd => exact Good6.nd (by assumption)); (case zqpl => exact Good6.pl (by assumption)); (case zqlo1 => assumption); (case zqlo2 => assumption); (case zqx1 => k_extra "SUB"); (case zqx2 => k_extra "SUB"); (case zqs => k_extra "SAME"); (case zqu => k_extra "UNITS"); k_whole) | (refine' ne_pairs ?zqN ?zqa ?zqb ?zql ?zqk ?zqs ?zqu ?_; (case zqN => k_asm); (case zqa => k_mem); (case zqb => k_mem); (case zql => k_mem); (case zqk => k_mem); (case zqs => k_extra "SAME"); (case zqu => k_extra "UNITS"); k_whole) | (refine' ne_lists ?zqN ?zqa ?zqb ?zqs ?zqu ?_; (case zqN => k_asm); (case zqa => k_mem); (case zqb => k_mem); (case zqs => k_extra "SAME"); (case zqu => k_extra "UNITS"); k_whole)))
  trivial
/-- the last test of a turn that has not raised -/
theorem told6 {w : World} {p : Program} {loose : List Str} {mean : ExcName → Option Value} {mg mb : Str → Option Value} {h₀ : Heap} {L fa : Addr} {cd : Value} {m : Str → Option Value} {s : Shared} {o oD : Obj} {x d li da nt du dn : Addr} {t1 t2 t3 t4 t5 kt : Tok} {i n1 n2 n3 n4 n5 : Nat} {av sh lo : Value} {us ns ds dns : List Value} {D : Addr} {out : List (Str × Value)} {nx rest : List (Addr × Obj)} {as : List Att} {te tw : Tok} {E : Value → Shared → Prop} (B : Below callerA h₀ [] h₀) (X : (fragK.heap_1 w.params).In h₀) (T : Top p loose mean mg mb h₀) (F : Fr h₀ L s.heap m) (hm_word : m (Str.ofString "word") = some (.str (Str.ofString "") te)) (hm_told : m (Str.ofString "told") = some (.ref x)) (hm_wanted : m (Str.ofString "wanted") = some (.str (kS i) tw)) (hm_due : m (Str.ofString "due") = some (.ref du)) (hm_held : m (Str.ofString "held") = some (.ref D)) (hm_notes : m (Str.ofString "notes") = some (.ref nt)) (hm_due_notes : m (Str.ofString "due_notes") = some (.ref dn)) (N : News h₀ L s.heap ((x, instObj 113 d) :: (d, dictOf (vd w.params t1 t2 t3 t4 t5 (.str (kS i) kt) (.ref li) av sh lo) n1) :: (li, listOf us.toArray n2) :: (da, o) :: (nt, listOf ns.toArray n3) :: (du, listOf ds.toArray n4) :: (dn, listOf dns.toArray n5) :: (D, oD) :: (nx ++ (attLed w as ++ rest)))) (hS1 : SameL us ds) (hS2 : SameL ns dns) (hav : Hav w as av da o) (h6 : Good6 as) (hD : oD.IsDictOf (strKind PySem.Challenge.rw_pq1344_01.row.prog w) out) (hDlo : (D == sysModules) = false) (hSn : SeenR as out nx) :
    let e := (envOfC (Str.ofString "law") lawScope L fa cd); let A := callerA.deeper e; wpAny (model PySem.Challenge.rw_pq1344_01.row.prog w) A (exec (lawElse.getD 5 (.Pass ⟨0, 0, 0, 0⟩)) e) (Said h₀ L m s rest) E s := by
  have eS : lawScope = ⟨_, _, _, _, _⟩ := rfl
  dsimp only at eS
  rw [eS]
  clear eS
  intro e9 A9
  show wpAny _ _ (exec (Stmt.If _ _ _ _) _) _ _ _
  (try k_fold)
  repeat' ((fail_if_success (with_reducible show Said _ _ _ _ _ _ _)); k_extra "S0"; k_extra "S1")
  all_goals (try dsimp only)
  all_goals exact ⟨rfl, _, _, rfl, by k_asm, news_subK (by k_asm) (by k_extra "SUB")⟩
end
section
open PySem PySem.W PyProof.Rows PySem.Calls
set_option Elab.async false
set_option maxRecDepth 100000 
set_option maxHeartbeats 8000000 
theorem kwFV_0 : True := by
  k_with_none
  k_with "MEM" => first | (with_reducible exact List.mem_cons_self) | ((with_reducible refine List.mem_cons_of_mem _ ?_); k_extra "MEM")
  k_with "ENTER" => (refine' code_defP ?zqk1 ?zqk2 ?zqk3 ?zqk4 ?zqk5 ?zqkA ?zqkF ?zqkK ?zqk6 ?zqk7 ?zqk8 ?zqk9 ?zqkB ?_ ?zqc2 ?zqc3 ?zqc4 ?zqc5; (case zqkA => exact rfl); (case zqkF => exact rfl); (case zqkK => exact rfl); (case zqk1 => k_asm); (case zqk2 => k_asm); (case zqk3 => k_asm); (case zqk4 => k_asm); (case zqk5 => k_asm); (case zqk6 => k_is); (case zqk7 => k_is); (case zqk8 => k_room); (case zqk9 => first | exact BindsTo.of_eq rfl | exact binds_K (by k_in) rfl (by k_is) rfl rfl rfl); (case zqc5 => decide); (case zqkB => exact locs rfl); (case zqc2 => exact rfl); (case zqc3 => exact rfl); (case zqc4 => exact rfl); k_whole; intro g' L' h' Q' FG' F' N' B' X' T' hQ' e9 A9; (try dsimp only); (try k_lift B'); (try k_fold))
  k_with "S0" => ((fail_if_success (with_reducible show Post _ _ _ _ _ _ _ _)); (fail_if_success (with_reducible show LoopP _ _ _ _ _ _ _ _)); (fail_if_success (with_reducible show CmpP _ _ _ _ _ _ _ _ _ _ _ _ _ _ _)))
  k_with "S1" => first | (k_unfold; (try dsimp only)) | (k_end; wrow_close) | walk1 | (with_reducible refine hand (by assumption) ?_; try dsimp only) | (dsimp only; walk1) | (leave1; try dsimp only)
  k_with "ROOM" => first | (refine' room0 ?zqh ?zqe; (case zqh => assumption); (case zqe => exact rfl)) | (refine' room1 ?zqh ?zqe; (case zqh => assumption); (case zqe => exact rfl)) | (refine' room2 ?zqh ?zqe; (case zqh => assumption); (case zqe => exact rfl)) | (refine' room3 ?zqh ?zqe; (case zqh => assumption); (case zqe => exact rfl)) | (refine' roomz ?zqh; (case zqh => assumption)) | ktr_room
  k_with "UNITS" => first | (refine' room0 ?zqh ?zqe; (case zqh => assumption); (case zqe => exact rfl)) | (refine' room1 ?zqh ?zqe; (case zqh => assumption); (case zqe => exact rfl)) | (refine' room2 ?zqh ?zqe; (case zqh => assumption); (case zqe => exact rfl)) | (refine' room3 ?zqh ?zqe; (case zqh => assumption); (case zqe => exact rfl)) | exact lt_num rfl | ktr_units
  k_with "AR" => first | assumption | exact Nat.le_max_right _ _ | exact Nat.le_max_left _ _ | exact Nat.max_lt.mpr ⟨by assumption, by assumption⟩ | (refine' le_up ?zqh ?zqe; (case zqh => assumption); (case zqe => exact rfl)) | omega
  k_with "SUT" => first | exact sub_self | (refine sub_skip ?_; k_extra "SUT")
  k_with "SUK" => first | exact sub_nil | k_extra "SUT" | k_extra "SUB"
  k_with "KEEP" => first | (refine keep_hd (List.Mem.head _) ?_; k_extra "KEEP") | exact keep_of (by k_extra "SUK") | ((with_reducible refine' keep_cons ?zqkm ?_); (case zqkm => k_mem); k_extra "KEEP")
  k_with "APQ" => (rename Apart _ _ => h9; first | exact Apart.at h9 (by k_extra "MEM") (by k_extra "MEM") | exact ap_at h9 (by k_extra "MEM") (by k_extra "MEM") | (clear h9; k_extra "APQ"))
  k_with "ANQ" => (rename AllNe _ _ => h9; first | exact AllNe.at h9 (by k_extra "MEM") | exact an_at h9 (by k_extra "MEM") | (clear h9; k_extra "ANQ"))
  k_with "ALQ" => (rename AllLt _ _ => h9; first | exact lt_ne h9 (by k_extra "MEM") | exact lt_en h9 (by k_extra "MEM") | exact lt_ne2 h9 (by assumption) (by k_extra "MEM") | exact lt_en2 h9 (by assumption) (by k_extra "MEM") | (clear h9; k_extra "ALQ"))
  k_with "NEQ" => first | assumption | exact Ne.symm (by assumption) | exact Nat.ne_of_lt (by assumption) | exact Nat.ne_of_gt (by assumption) | k_extra "ALQ" | k_extra "ANQ" | k_extra "APQ" | omega
  k_with "APS" => (rename Apart _ _ => h9; first | exact Apart.subA h9 rfl (by k_extra "SUK") | (clear h9; k_extra "APS"))
  k_with "NE1" => (refine neN ?_; (try dsimp only); k_extra "NEQ")
  k_with "ALL" => first | exact all_nil | (rename AllLt _ _ => h9; exact lt_sub h9 (by k_extra "SUT")) | (refine' all_cons ?zqa ?zqb; (case zqa => k_ne); (case zqb => k_all))
  k_with "ALN" => first | exact ne_nil | (refine ne_cons ?_ ?_; (focus ((try dsimp only); k_extra "NEQ")); k_extra "ALN")
  k_with "APM" => first | exact ap_nil | k_extra "APS" | (refine ap_cons ?_ ?_; (focus k_extra "ALN"); k_extra "APM")
  k_with "CA" => ((case zqkB => k_asm); (case zqkF => k_asm); (case zqkX => k_asm); (case zqkN => k_asm))
  k_with "CB" => ((case zqkT => k_asm); (case zqkK => first | exact rfl | assumption); (case zqkd => k_extra "ROOM"); (case zqku => k_extra "UNITS"))
  k_with "CE" => all_goals ((try ((with_reducible rename News _ _ _ _ => h9); simp only [List.nil_append, List.cons_append] at h9)); (try ((with_reducible rename Apart [] _ => h7); clear h7)); (try dsimp only [Option.getD_some, Option.getD_none]); (try k_sweep); (try k_fold))
  k_with "CZ" => all_goals ((try dsimp only [Option.getD_some, Option.getD_none]); (try k_sweep); (try k_fold))
  k_with "call builtin:len" => (k_here; (with_reducible show wpAny _ _ (call (Value.builtin "len") [Value.ref _]) _ _ _); k_dflt (refine' len_sym ?zqk1 ?zqk2 ?zqk3 ?_; (case zqk1 => k_asm); (case zqk2 => k_mem); (case zqk3 => k_extra "AR"); k_whole))
  k_with "getMethod ref" => (k_here; (with_reducible show wpAny _ _ (getMethod (Value.ref _) (PySem.Str.ofString "get") _) _ _ _); k_dflt (refine' get_method ?zqk1 ?zqk2 ?zqk3 ?_; (case zqk1 => k_asm); (case zqk2 => k_mem); (case zqk3 => with_reducible assumption); k_whole))
  k_with "call builtin:dict.get" => (k_here; (with_reducible show wpAny _ _ (call (Value.builtin "dict.get") [Value.ref _, Value.str _ _]) _ _ _); k_dflt (refine' get_call ?zqk0 ?zqk1 ?zqk2 ?zqk3 ?_; (case zqk1 => k_asm); (case zqk2 => k_mem); (case zqk3 => with_reducible assumption); (case zqk0 => with_reducible assumption); k_whole))
  k_with "LOCA" => first | exact LocArgs.nil | (refine' LocArgs.cons ?zqlk ?zqld ?zqlv ?zqlt; (case zqlk => kernel_rfl!); (case zqld => kernel_rfl); (case zqlv => first | rfl | assumption); (case zqlt => k_extra "LOCA"))
  k_with "eval Call" => (k_here; (with_reducible show wpAny _ _ (eval (Expr.Call (Expr.Name _ _) (Expr.Name _ _ :: _) [] _) _) _ _ _); first | ((with_reducible refine' callO_loc ?zqF ?zqX ?zqT ?zqe ?zqk ?zqa ?zqb ?zqc ?zql ?_); k_dflt ((case zqF => k_asm); (case zqX => k_asm); (case zqT => k_asm); (case zqa => exact rfl); (case zqb => kernel_rfl!); (case zqc => kernel_rfl); (case zqe => k_is); (case zqk => k_is); (case zql => k_extra "LOCA"); k_whole)) | ((with_reducible refine' callC_loc ?zqF ?zqX ?zqT ?zqe ?zqk ?zqa ?zqb ?zqc ?zql ?_); k_dflt ((case zqF => k_asm); (case zqX => k_asm); (case zqT => k_asm); (case zqa => exact rfl); (case zqb => kernel_rfl!); (case zqc => kernel_rfl); (case zqe => k_is); (case zqk => k_is); (case zql => k_extra "LOCA"); k_whole)))
  k_with "eval Attribute Name" => (k_here; (with_reducible refine' attrO_loc ?zqF ?zqv ?zqa ?zqb ?zqc ?_); k_dflt ((case zqF => k_asm); (case zqa => exact rfl); (case zqb => kernel_rfl!); (case zqc => kernel_rfl); (case zqv => first | rfl | assumption); k_whole))
  k_with "ite" => (k_here; first | (k_closed; first | ((with_reducible refine ite_pos ?zqk2 ?_); k_dflt (case zqk2 => decide)) | ((with_reducible refine ite_neg ?zqk2 ?_); k_dflt (case zqk2 => decide))) | (refine' ite_bf ?zqk1 ?_; (case zqk1 => first | assumption | exact decide_eq_false (by omega) | exact beq_eq_false_iff_ne.mpr (by omega))) | (refine' ite_bt ?zqk1 ?_; (case zqk1 => first | assumption | exact decide_eq_true (by omega) | exact beq_iff_eq.mpr (by omega))))
  k_with "call type:dict" => (k_here; (with_reducible show wpAny _ _ (call (Value.type "dict") [Value.ref _]) _ _ _); k_dflt (refine' dict_copyK ?zqF ?zqN ?zqb ?zqm ?zqD ?zql ?zqz ?_; (case zqF => k_asm); (case zqN => k_asm); (case zqb => exact Top.nolimit (by k_asm)); (case zqm => k_mem); (case zqD => with_reducible assumption); (case zql => with_reducible assumption); (case zqz => omega); k_whole); intro d' h' o' F' N' l1 lo' hd'; (try k_lt l1))
  k_with "eval Name" => (k_here; first | ((with_reducible refine' nameO_L ?zqF ?zqv ?_ ?zqa ?zqb ?zqc); k_dflt ((case zqF => k_asm); (case zqa => exact rfl); (case zqb => kernel_rfl!); (case zqc => kernel_rfl); (case zqv => first | rfl | assumption); k_whole)) | ((with_reducible refine' nameO_K ?zqF ?zqX ?zqT ?zqe ?_ ?zqa ?zqb ?zqc); k_dflt ((case zqF => k_asm); (case zqX => k_asm); (case zqT => k_asm); (case zqa => exact rfl); (case zqb => kernel_rfl!); (case zqc => kernel_rfl); (case zqe => k_is); k_whole)) | ((with_reducible refine' nameC_L ?zqF ?zqv ?_ ?zqa ?zqb ?zqc); k_dflt ((case zqF => k_asm); (case zqa => exact rfl); (case zqb => kernel_rfl!); (case zqc => kernel_rfl); (case zqv => first | rfl | assumption); k_whole)) | ((with_reducible refine' nameC_K ?zqF ?zqX ?zqT ?zqe ?_ ?zqa ?zqb ?zqc); k_dflt ((case zqF => k_asm); (case zqX => k_asm); (case zqT => k_asm); (case zqa => exact rfl); (case zqb => kernel_rfl!); (case zqc => kernel_rfl); (case zqe => k_is); k_whole)))
  trivial
theorem kwFV_1 : True := by
  k_with "SUB" => first | exact sub_nil | ((with_reducible refine' sub_cons ?zqsm ?_); (case zqsm => k_mem); k_extra "SUB") | (refine sub_app ?_ ?_; (focus k_extra "SUB"); k_extra "SUB") | k_extra "SUT" | (intro p9 hp9; repeat' (first | exact hp9 | refine List.mem_cons_of_mem _ ?_ | exact List.mem_append.mpr (Or.inl hp9) | refine List.mem_append.mpr (Or.inr ?_)))
  k_with "OWN" => (intro p9 hp9; repeat' (first | exact hp9 | refine List.mem_cons_of_mem _ ?_ | exact List.mem_append.mpr (Or.inl hp9) | refine List.mem_append.mpr (Or.inr ?_)))
  k_with "ALL" => ((rename AllNe _ _ => hAn9); first | (refine AllNe.all ?_; exact hAn9) | (refine fun p hp => AllNe.all hAn9 p ?_; repeat' (first | exact hp | exact List.mem_append.mpr (Or.inl hp) | exact List.mem_append.mpr (Or.inr hp) | refine List.mem_cons_of_mem _ ?_)) | (clear hAn9; k_all))
  k_with "eval Name" => (k_here; (with_reducible show wpAny _ _ (eval (Expr.Name _ _) (envOfC _ _ _ _ _)) _ _ _); k_dflt (refine' ldLoc ?zqF ?zqv ?_ ?zqa ?zqb ?zqc; (case zqa => rfl); (case zqb => rfl); (case zqc => decide); (case zqF => k_asm); (case zqv => assumption); k_whole))
  k_with "call ref" => (k_here; (with_reducible show wpAny _ _ (call (Value.ref 817) _) _ _ _); k_dflt (refine' tells_callG (tried_ok ?zqhqs ?zqhi ?zqhDr ?zqhj ?zqhlo ?zqhus ?zqhlen ?zqhws ?zqhwl ?zqhok) ?zqkB ?zqkF ?zqkX ?zqkN ?zqkS ?zqkT ?zqkK ?zqkd ?zqku ?_; k_extra "CA"; (case zqhDr => with_reducible assumption); (case zqkS => k_extra "SUK"); (case zqhqs => assumption); (case zqhi => with_reducible assumption); (case zqhj => with_reducible assumption); (case zqhlo => exact rfl); (case zqhus => assumption); (case zqhlen => k_extra "AR"); (case zqhws => assumption); (case zqhwl => k_extra "AR"); (case zqhok => assumption); k_extra "CB"; k_whole; intro T9Z nt9Z x9Z d9Z l9Z da9Z n09Z na9Z n8Z n7Z a9Z o9Z u9Z ns9Z te9Z s91Z s92Z s93Z s94Z s95Z s96Z s97Z t9Z hNt9Z hRs9Z hWo9Z h' tk' F' N' A'; have hul9 := hRs9Z.1; k_extra "CE"))
  k_with "call ref" => (k_here; (with_reducible show wpAny _ _ (call (Value.ref 805) _) _ _ _); k_dflt (refine' tells_callG (lr_tells ?zqhj ?zqhjk ?zqhk ?zqhes ?zqhlen) ?zqkB ?zqkF ?zqkX ?zqkN ?zqkS ?zqkT ?zqkK ?zqkd ?zqku ?_; k_extra "CA"; (case zqkS => k_extra "SUK"); (case zqhj => with_reducible assumption); (case zqhjk => k_extra "AR"); (case zqhk => k_extra "AR"); (case zqhes => assumption); (case zqhlen => k_extra "AR"); k_extra "CB"; k_whole; intro l9Z n9Z u9Z hRz9Z h' tk' F' N' A'; have hlz9 := hRz9Z.1; k_extra "CE"))
  k_with "call builtin:list.index" => (k_here; (with_reducible show wpAny _ _ (call (Value.builtin _) [Value.ref _, Value.str _ _]) _ _ _); k_dflt (refine' kinds_index ?zqh ?zqN ?zqm ?_; (case zqN => k_asm); (case zqm => k_mem); (case zqh => assumption); k_whole))
  k_with "subscriptTail" => (k_here; (with_reducible show wpAny _ _ (subscriptTail _ _ (Value.ref _) (Value.int _ _)) _ _ _); k_dflt (refine' kinds_max ?zqk5 ?zqk1 ?zqk2 ?zqk3 ?_ ?zqk6; (case zqk2 => k_asm); (case zqk3 => k_mem); (case zqk1 => assumption); (case zqk5 => assumption); (case zqk6 => with_unfolding_all rfl); k_whole); intro t9)
  k_with "compareOp Eq ref ref" => (k_here; (with_reducible show wpAny _ _ (compareOp CmpOp.Eq (Value.ref _) (Value.ref _)) _ _ _); k_dflt (first | (refine' eq_lists_len (vs := []) ?zqN ?zqa ?zqb ?zqh ?zqu ?_; (case zqN => k_asm); (case zqa => k_mem); (case zqb => k_mem); (case zqh => (have z9 : ([] : List Value).length = 0 := rfl; rw [z9]; omega)); (case zqu => k_extra "UNITS"); k_whole) | (refine' eq_lists (vs := []) ?zqN ?zqa ?zqb ?zqh ?zqu ?_; (case zqN => k_asm); (case zqa => k_mem); (case zqb => k_mem); (case zqh => exact SameL.nil_of (by omega)); (case zqu => k_extra "UNITS"); k_whole)))
  k_with "SAME" => first | assumption | exact rs_nil (by assumption) (by omega) | exact nts_no (by assumption) (by omega) | exact nts_yes (by assumption) (by omega) (by assumption) | exact SameL.okv (by assumption) | exact SameL.nil | exact SameL.nil_of (by omega)
  k_with "compareOp NotEq ref ref" => (k_here; (with_reducible show wpAny _ _ (compareOp CmpOp.NotEq (Value.ref _) (Value.ref _)) _ _ _); k_dflt (first | (refine' ne_trips ?zqN ?zqnd ?zqpl ?zqh1 ?zqh2 ?zqx1 ?zqx2 ?zqd1 ?zqd2 ?zqD1 ?zqD2 ?zqlo1 ?zqlo2 ?zqa ?zqb ?zql ?zqk ?zqs ?zqu ?_; (case zqN => k_asm); (case zqa => k_mem); (case zqb => k_mem); (case zql => k_mem); (case zqk => k_mem); (case zqd1 => k_mem); (case zqd2 => k_mem); (case zqD1 => assumption); (case zqD2 => assumption); (case zqh1 => assumption); (case zqh2 => assumption); (case zqnd => exact Good6.nd (by assumption)); (case zqpl => exact Good6.pl (by assumption)); (case zqlo1 => assumption); (case zqlo2 => assumption); (case zqx1 => k_extra "SUB"); (case zqx2 => k_extra "SUB"); (case zqs => k_extra "SAME"); (case zqu => k_extra "UNITS"); k_whole) | (refine' ne_pairs ?zqN ?zqa ?zqb ?zql ?zqk ?zqs ?zqu ?_; (case zqN => k_asm); (case zqa => k_mem); (case zqb => k_mem); (case zql => k_mem); (case zqk => k_mem); (case zqs => k_extra "SAME"); (case zqu => k_extra "UNITS"); k_whole) | (refine' ne_lists ?zqN ?zqa ?zqb ?zqs ?zqu ?_; (case zqN => k_asm); (case zqa => k_mem); (case zqb => k_mem); (case zqs => k_extra "SAME"); (case zqu => k_extra "UNITS"); k_whole)))
  k_with "subscriptTail" => (k_here; (with_reducible show wpAny _ _ (subscriptTail _ _ (Value.ref _) (Value.int _ _)) _ _ _); k_dflt (refine' item_any ?zqk1 ?zqk2 ?zqk3 ?zqk4 ?zqk5 ?_ ?zqk6; (case zqk1 => k_asm); (case zqk2 => k_mem); (case zqk3 => first | omega | exact fmod_lo _ (by omega)); (case zqk4 => first | omega | exact fmod_hi _ (by omega)); (case zqk5 => omega); (case zqk6 => with_unfolding_all rfl); k_whole))
  trivial
theorem turn0V {w : World} {p : Program} {loose : List Str} {mean : ExcName → Option Value} {mg mb : Str → Option Value} {h₀ : Heap} {L fa : Addr} {cd : Value} {m : Str → Option Value} {s : Shared} {oc o ex ed eld oD : Obj} {ql q9 : Nat} {qs : List Value} {ix dm : Addr} {y1 y2 y3 : Tok} {n9 : Nat} {x d li da xd dd ld : Addr} {t1 t2 t3 t4 t5 kt : Tok} {i n1 n2 : Nat} {av sh : Value} {es ws : List Value} {ol nw : Nat} {kl nk : Nat} {ka kb kc : Tok} {D : Addr} {out : List (Str × Value)} {nx rest : List (Addr × Obj)} {as : List Att} {tp ts to : Tok} {j : Nat} {ov : Option Value} {E : Value → Shared → Prop} {xv dv lv : Addr} {v1 v2 v3 v4 v5 vt : Tok} {vsh vlo : Value} {m1 m2 : Nat} (B : Below callerA h₀ [] h₀) (X : (fragK.heap_1 w.params).In h₀) (T : Top p loose mean mg mb h₀) (F : Fr h₀ L s.heap m) (hm_v : m (Str.ofString "v") = some (.ref x)) (hm_indexes : m (Str.ofString "indexes") = some (.ref ql)) (hm_value : m (Str.ofString "value") = some (.ref xv)) (hm_places : m (Str.ofString "places") = some (.int (es.length : Int) tp)) (hm_empty_one : m (Str.ofString "empty_one") = some (.bool false)) (hm_others : m (Str.ofString "others") = some (.ref ol)) (hm_sort_of : m (Str.ofString "sort_of") = some (.str (kS i) ts)) (hm_other_sort : m (Str.ofString "other_sort") = some (.str (kS j) to)) (hm_held : m (Str.ofString "held") = some (.ref D)) (hm_kinds : m (Str.ofString "kinds") = some (.ref kl)) (N : News h₀ L s.heap ((L + 1, oc) :: (ql, listOf qs.toArray q9) :: (ix, instObj 84 dm) :: (dm, dictOf [ent w.params (Str.ofString "kind") y1 (.str (Str.ofString "missing") y2), ent w.params (Str.ofString "attrs") y3 .none] n9) :: (x, instObj 113 d) :: (d, dictOf (vd w.params t1 t2 t3 t4 t5 (.str (kS i) kt) (.ref li) av sh (.bool false)) n1) :: (da, o) :: (xd, ex) :: (dd, ed) :: (ld, eld) :: (li, listOf es.toArray n2) :: (xv, instObj 113 dv) :: (dv, dictOf (vd w.params v1 v2 v3 v4 v5 (.str (kS j) vt) (.ref lv) .none vsh vlo) m1) :: (lv, listOf ws.toArray m2) :: (ol, listOf ws.toArray nw) :: (kl, listOf #[.str (Str.ofString "logical") ka, .str (Str.ofString "integer") kb, .str (Str.ofString "character") kc] nk) :: (D, oD) :: (nx ++ (attLed w as ++ rest)))) (hoc : oc.data = .cell ov) (hqs : qs = [] ∨ qs = [.ref ix]) (hi : i < 3) (hDr : Dr w av da o (attKvs as) xd dd ld ex ed eld) (hlen : es.length ≤ 20) (hcell : AllNe (L + 1) ((ql, listOf qs.toArray q9) :: (ix, instObj 84 dm) :: (dm, dictOf [ent w.params (Str.ofString "kind") y1 (.str (Str.ofString "missing") y2), ent w.params (Str.ofString "attrs") y3 .none] n9) :: (x, instObj 113 d) :: (d, dictOf (vd w.params t1 t2 t3 t4 t5 (.str (kS i) kt) (.ref li) av sh (.bool false)) n1) :: (da, o) :: (xd, ex) :: (dd, ed) :: (ld, eld) :: (li, listOf es.toArray n2) :: (xv, instObj 113 dv) :: (dv, dictOf (vd w.params v1 v2 v3 v4 v5 (.str (kS j) vt) (.ref lv) .none vsh vlo) m1) :: (lv, listOf ws.toArray m2) :: (ol, listOf ws.toArray nw) :: (kl, listOf #[.str (Str.ofString "logical") ka, .str (Str.ofString "integer") kb, .str (Str.ofString "character") kc] nk) :: (D, oD) :: (nx ++ (attLed w as ++ rest)))) (hj : j < 3) (hus : ∀ u ∈ es, Okv i u) (hws : ∀ u ∈ ws, Okv j u) (hwl : ws.length ≤ 20) (hok : es.length = 0 ∨ 0 < ws.length) (hav0 : (av = .none ∧ as = []) ∨ (av = .ref da)) (h6' : Good6' as) (h6 : Good6 as) (hD : oD.IsDictOf (strKind PySem.Challenge.rw_pq1344_01.row.prog w) out) (hDlo : (D == sysModules) = false) (hSn : SeenR as out nx) :
    let e := (envOfC (Str.ofString "law") lawScope L fa cd); let A := callerA.deeper e; wpAny (model PySem.Challenge.rw_pq1344_01.row.prog w) A (execs (lawFor.take 2) e) (Turned h₀ L m s ((ql, listOf qs.toArray q9) :: (ix, instObj 84 dm) :: (dm, dictOf [ent w.params (Str.ofString "kind") y1 (.str (Str.ofString "missing") y2), ent w.params (Str.ofString "attrs") y3 .none] n9) :: (x, instObj 113 d) :: (d, dictOf (vd w.params t1 t2 t3 t4 t5 (.str (kS i) kt) (.ref li) av sh (.bool false)) n1) :: (da, o) :: (xd, ex) :: (dd, ed) :: (ld, eld) :: (li, listOf es.toArray n2) :: (xv, instObj 113 dv) :: (dv, dictOf (vd w.params v1 v2 v3 v4 v5 (.str (kS j) vt) (.ref lv) .none vsh vlo) m1) :: (lv, listOf ws.toArray m2) :: (ol, listOf ws.toArray nw) :: (kl, listOf #[.str (Str.ofString "logical") ka, .str (Str.ofString "integer") kb, .str (Str.ofString "character") kc] nk) :: (D, oD) :: (nx ++ (attLed w as ++ rest)))) E s := by
  refine wo ?_
  simp (disch :=
  k_dflt (
  refine wk ?_
  have eS : lawScope = ⟨_, _, _, _, _⟩ := rfl
  dsimp only at eS
  rw [eS]
  clear eS
  intro e9 A9
  show wpAny _ _ (execs (_ :: _ :: []) _) _ _ _
  (try k_fold)
  repeat' ((fail_if_success (with_reducible show Turned _ _ _ _ _ _ _)); (fail_if_success (with_reducible show wpAny _ _ (exec (Stmt.Assign _ (Expr.ListComp _ _ _ _) _) _) _ _ _)); (fail_if_success (with_reducible show wpAny _ _ (eval (Expr.ListComp _ _ _ _) _) _ _ _)); (fail_if_success (with_reducible show wpAny _ _ (exec (Stmt.If (Expr.BoolOp BoolOp.Or _ _) _ _ _) _) _ _ _)); k_extra "S0"; k_extra "S1")
  · k_dflt (refine LCg.Assign_ListComp_U (F₀ := by k_asm) (by rfl) (by with_unfolding_all rfl) (by with_unfolding_all rfl) (by decide) (by rfl) (by decide) (by rfl) (by rfl) (by rfl) ?_)
    repeat' ((fail_if_success (with_reducible show LCg.CompSrc _ _ _ _ _ _ _ _ _ _ _ _ _ _)); k_extra "S0"; k_extra "S1")
    refine LCg.CompSrc.range (n := es.length) (by rfl) (by k_asm) (by k_asm) (by assumption) (rng_small (by omega) (by omega)) rng_size (by rw [sizeLine_eq]; omega) ?_
    intro g9
    (rename Rz _ _ _ _ => hRz8)
    refine cmp_due hRz8 ?turn ?fin
    case turn =>
      intro q v I oI C oC Dc m₂ ys hc tkc E' hq hv hC hx F₁ N₁ off ne
      obtain ⟨t9, rfl⟩ := hv
      repeat' (k_extra "S0"; k_extra "S1")
      ((try dsimp only); refine' cmpP_of ?F ?N ?q1 ?q2 ?q3 ?q4; (case F => k_asm); (case N => k_asm); (case q1 => k_extra "SUB"); (case q2 => assumption); (case q3 => exact True.intro); (case q4 => rw [fmod_nat]))
    case fin =>
      intro ys hys hG Dc hc tkc F₁ N₁ off
      have eL : LCg.lst ys = listOf ys.toArray ys.length := rfl
      rw [eL] at N₁
      have hoD := AllNe.of (off1_all off)
      clear off
      (rename Rs _ _ _ _ _ => hRs8)
      have hSame := due_same (by omega) hRs8 hRz8 hys hG
      repeat' ((fail_if_success (with_reducible show Turned _ _ _ _ _ _ _)); (fail_if_success (with_reducible show wpAny _ _ (exec (Stmt.If (Expr.BoolOp BoolOp.Or _ _) _ _ _) _) _ _ _)); k_extra "S0"; k_extra "S1")
      all_goals
        (rename Wo _ _ _ _ _ _ => hWo8)
        (rename Fr _ _ _ _ => F7)
        (rename News _ _ _ _ => N7)
        (try simp only [List.push_toArray, List.nil_append] at N7)
        (try dsimp only)
        refine wpAny_mono (told6 (rest := ((L + 1, _) :: (ql, listOf qs.toArray q9) :: (ix, instObj 84 dm) :: (dm, dictOf [ent w.params (Str.ofString "kind") y1 (.str (Str.ofString "missing") y2), ent w.params (Str.ofString "attrs") y3 .none] n9) :: (x, instObj 113 d) :: (d, dictOf (vd w.params t1 t2 t3 t4 t5 (.str (kS i) kt) (.ref li) av sh (.bool false)) n1) :: (da, o) :: (xd, ex) :: (dd, ed) :: (ld, eld) :: (li, listOf es.toArray n2) :: (xv, instObj 113 dv) :: (dv, dictOf (vd w.params v1 v2 v3 v4 v5 (.str (kS j) vt) (.ref lv) .none vsh vlo) m1) :: (lv, listOf ws.toArray m2) :: (ol, listOf ws.toArray nw) :: (kl, listOf #[.str (Str.ofString "logical") ka, .str (Str.ofString "integer") kb, .str (Str.ofString "character") kc] nk) :: (D, oD) :: (nx ++ (attLed w as ++ rest)))) B X T F7 rfl rfl rfl rfl hm_held rfl rfl (news_subK N7 (by k_extra "SUB")) (by k_extra "SAME") (by k_extra "SAME") (Hav.wo h6' hav0 hWo8) h6 hD hDlo hSn) (fun fl s' h9 => ?_) (fun _ _ e => e)
        obtain ⟨rfl, h8, tk8, rfl, F8, N8⟩ := h9
        repeat' ((fail_if_success (with_reducible show Turned _ _ _ _ _ _ _)); k_extra "S0"; k_extra "S1")
        (try dsimp only)
        exact turned_of F8 N8 (.head _) (by assumption) (fun q hq => .tail _ hq) (by exact Kept.of rfl rfl rfl rfl rfl rfl rfl rfl rfl rfl rfl)
  (rename Wo _ _ _ _ _ _ => hWo8)
  (rename Fr _ _ _ _ => F7)
  (rename News _ _ _ _ => N7)
  (try simp only [List.push_toArray, List.nil_append] at N7)
  (try dsimp only)
  refine wpAny_mono (told6 (rest := ((L + 1, _) :: (ql, listOf qs.toArray q9) :: (ix, instObj 84 dm) :: (dm, dictOf [ent w.params (Str.ofString "kind") y1 (.str (Str.ofString "missing") y2), ent w.params (Str.ofString "attrs") y3 .none] n9) :: (x, instObj 113 d) :: (d, dictOf (vd w.params t1 t2 t3 t4 t5 (.str (kS i) kt) (.ref li) av sh (.bool false)) n1) :: (da, o) :: (xd, ex) :: (dd, ed) :: (ld, eld) :: (li, listOf es.toArray n2) :: (xv, instObj 113 dv) :: (dv, dictOf (vd w.params v1 v2 v3 v4 v5 (.str (kS j) vt) (.ref lv) .none vsh vlo) m1) :: (lv, listOf ws.toArray m2) :: (ol, listOf ws.toArray nw) :: (kl, listOf #[.str (Str.ofString "logical") ka, .str (Str.ofString "integer") kb, .str (Str.ofString "character") kc] nk) :: (D, oD) :: (nx ++ (attLed w as ++ rest)))) B X T F7 rfl rfl rfl rfl hm_held rfl rfl (news_subK N7 (by k_extra "SUB")) (by k_extra "SAME") (by k_extra "SAME") (Hav.wo h6' hav0 hWo8) h6 hD hDlo hSn) (fun fl s' h9 => ?_) (fun _ _ e => e)
  obtain ⟨rfl, h8, tk8, rfl, F8, N8⟩ := h9
  repeat' ((fail_if_success (with_reducible show Turned _ _ _ _ _ _ _)); k_extra "S0"; k_extra "S1")
  (try dsimp only)
  exact turned_of F8 N8 (.head _) (by assumption) (fun q hq => .tail _ hq) (by exact Kept.of rfl rfl rfl rfl rfl rfl rfl rfl rfl rfl rfl)
  )) only [↓wt]
end
section
open PySem PySem.W PyProof.Rows PySem.Calls
set_option Elab.async false
set_option maxRecDepth 100000 
set_option maxHeartbeats 8000000 
theorem kwF2_0 : True := by
  k_with_none
  k_with "MEM" => first | (with_reducible exact List.mem_cons_self) | ((with_reducible refine List.mem_cons_of_mem _ ?_); k_extra "MEM")
  k_with "ENTER" => (refine' code_defP ?zqk1 ?zqk2 ?zqk3 ?zqk4 ?zqk5 ?zqkA ?zqkF ?zqkK ?zqk6 ?zqk7 ?zqk8 ?zqk9 ?zqkB ?_ ?zqc2 ?zqc3 ?zqc4 ?zqc5; (case zqkA => exact rfl); (case zqkF => exact rfl); (case zqkK => exact rfl); (case zqk1 => k_asm); (case zqk2 => k_asm); (case zqk3 => k_asm); (case zqk4 => k_asm); (case zqk5 => k_asm); (case zqk6 => k_is); (case zqk7 => k_is); (case zqk8 => k_room); (case zqk9 => first | exact BindsTo.of_eq rfl | exact binds_K (by k_in) rfl (by k_is) rfl rfl rfl); (case zqc5 => decide); (case zqkB => exact locs rfl); (case zqc2 => exact rfl); (case zqc3 => exact rfl); (case zqc4 => exact rfl); k_whole; intro g' L' h' Q' FG' F' N' B' X' T' hQ' e9 A9; (try dsimp only); (try k_lift B'); (try k_fold))
  k_with "S0" => ((fail_if_success (with_reducible show Post _ _ _ _ _ _ _ _)); (fail_if_success (with_reducible show LoopP _ _ _ _ _ _ _ _)); (fail_if_success (with_reducible show CmpP _ _ _ _ _ _ _ _ _ _ _ _ _ _ _)))
  k_with "S1" => first | (k_unfold; (try dsimp only)) | (k_end; wrow_close) | walk1 | (with_reducible refine hand (by assumption) ?_; try dsimp only) | (dsimp only; walk1) | (leave1; try dsimp only)
  k_with "ROOM" => first | (refine' room0 ?zqh ?zqe; (case zqh => assumption); (case zqe => exact rfl)) | (refine' room1 ?zqh ?zqe; (case zqh => assumption); (case zqe => exact rfl)) | (refine' room2 ?zqh ?zqe; (case zqh => assumption); (case zqe => exact rfl)) | (refine' room3 ?zqh ?zqe; (case zqh => assumption); (case zqe => exact rfl)) | (refine' roomz ?zqh; (case zqh => assumption)) | ktr_room
  k_with "UNITS" => first | (refine' room0 ?zqh ?zqe; (case zqh => assumption); (case zqe => exact rfl)) | (refine' room1 ?zqh ?zqe; (case zqh => assumption); (case zqe => exact rfl)) | (refine' room2 ?zqh ?zqe; (case zqh => assumption); (case zqe => exact rfl)) | (refine' room3 ?zqh ?zqe; (case zqh => assumption); (case zqe => exact rfl)) | exact lt_num rfl | ktr_units
  k_with "AR" => first | assumption | exact Nat.le_max_right _ _ | exact Nat.le_max_left _ _ | exact Nat.max_lt.mpr ⟨by assumption, by assumption⟩ | (refine' le_up ?zqh ?zqe; (case zqh => assumption); (case zqe => exact rfl)) | omega
  k_with "SUT" => first | exact sub_self | (refine sub_skip ?_; k_extra "SUT")
  k_with "SUK" => first | exact sub_nil | k_extra "SUT" | k_extra "SUB"
  k_with "KEEP" => first | (refine keep_hd (List.Mem.head _) ?_; k_extra "KEEP") | exact keep_of (by k_extra "SUK") | ((with_reducible refine' keep_cons ?zqkm ?_); (case zqkm => k_mem); k_extra "KEEP")
  k_with "APQ" => (rename Apart _ _ => h9; first | exact Apart.at h9 (by k_extra "MEM") (by k_extra "MEM") | exact ap_at h9 (by k_extra "MEM") (by k_extra "MEM") | (clear h9; k_extra "APQ"))
  k_with "ANQ" => (rename AllNe _ _ => h9; first | exact AllNe.at h9 (by k_extra "MEM") | exact an_at h9 (by k_extra "MEM") | (clear h9; k_extra "ANQ"))
  k_with "ALQ" => (rename AllLt _ _ => h9; first | exact lt_ne h9 (by k_extra "MEM") | exact lt_en h9 (by k_extra "MEM") | exact lt_ne2 h9 (by assumption) (by k_extra "MEM") | exact lt_en2 h9 (by assumption) (by k_extra "MEM") | (clear h9; k_extra "ALQ"))
  k_with "NEQ" => first | assumption | exact Ne.symm (by assumption) | exact Nat.ne_of_lt (by assumption) | exact Nat.ne_of_gt (by assumption) | k_extra "ALQ" | k_extra "ANQ" | k_extra "APQ" | omega
  k_with "APS" => (rename Apart _ _ => h9; first | exact Apart.subA h9 rfl (by k_extra "SUK") | (clear h9; k_extra "APS"))
  k_with "NE1" => (refine neN ?_; (try dsimp only); k_extra "NEQ")
  k_with "ALL" => first | exact all_nil | (rename AllLt _ _ => h9; exact lt_sub h9 (by k_extra "SUT")) | (refine' all_cons ?zqa ?zqb; (case zqa => k_ne); (case zqb => k_all))
  k_with "ALN" => first | exact ne_nil | (refine ne_cons ?_ ?_; (focus ((try dsimp only); k_extra "NEQ")); k_extra "ALN")
  k_with "APM" => first | exact ap_nil | k_extra "APS" | (refine ap_cons ?_ ?_; (focus k_extra "ALN"); k_extra "APM")
  k_with "CA" => ((case zqkB => k_asm); (case zqkF => k_asm); (case zqkX => k_asm); (case zqkN => k_asm))
  k_with "CB" => ((case zqkT => k_asm); (case zqkK => first | exact rfl | assumption); (case zqkd => k_extra "ROOM"); (case zqku => k_extra "UNITS"))
  k_with "CE" => all_goals ((try ((with_reducible rename News _ _ _ _ => h9); simp only [List.nil_append, List.cons_append] at h9)); (try ((with_reducible rename Apart [] _ => h7); clear h7)); (try dsimp only [Option.getD_some, Option.getD_none]); (try k_sweep); (try k_fold))
  k_with "CZ" => all_goals ((try dsimp only [Option.getD_some, Option.getD_none]); (try k_sweep); (try k_fold))
  k_with "call builtin:len" => (k_here; (with_reducible show wpAny _ _ (call (Value.builtin "len") [Value.ref _]) _ _ _); k_dflt (refine' len_sym ?zqk1 ?zqk2 ?zqk3 ?_; (case zqk1 => k_asm); (case zqk2 => k_mem); (case zqk3 => k_extra "AR"); k_whole))
  k_with "getMethod ref" => (k_here; (with_reducible show wpAny _ _ (getMethod (Value.ref _) (PySem.Str.ofString "get") _) _ _ _); k_dflt (refine' get_method ?zqk1 ?zqk2 ?zqk3 ?_; (case zqk1 => k_asm); (case zqk2 => k_mem); (case zqk3 => with_reducible assumption); k_whole))
  k_with "call builtin:dict.get" => (k_here; (with_reducible show wpAny _ _ (call (Value.builtin "dict.get") [Value.ref _, Value.str _ _]) _ _ _); k_dflt (refine' get_call ?zqk0 ?zqk1 ?zqk2 ?zqk3 ?_; (case zqk1 => k_asm); (case zqk2 => k_mem); (case zqk3 => with_reducible assumption); (case zqk0 => with_reducible assumption); k_whole))
  k_with "LOCA" => first | exact LocArgs.nil | (refine' LocArgs.cons ?zqlk ?zqld ?zqlv ?zqlt; (case zqlk => kernel_rfl!); (case zqld => kernel_rfl); (case zqlv => first | rfl | assumption); (case zqlt => k_extra "LOCA"))
  k_with "eval Call" => (k_here; (with_reducible show wpAny _ _ (eval (Expr.Call (Expr.Name _ _) (Expr.Name _ _ :: _) [] _) _) _ _ _); first | ((with_reducible refine' callO_loc ?zqF ?zqX ?zqT ?zqe ?zqk ?zqa ?zqb ?zqc ?zql ?_); k_dflt ((case zqF => k_asm); (case zqX => k_asm); (case zqT => k_asm); (case zqa => exact rfl); (case zqb => kernel_rfl!); (case zqc => kernel_rfl); (case zqe => k_is); (case zqk => k_is); (case zql => k_extra "LOCA"); k_whole)) | ((with_reducible refine' callC_loc ?zqF ?zqX ?zqT ?zqe ?zqk ?zqa ?zqb ?zqc ?zql ?_); k_dflt ((case zqF => k_asm); (case zqX => k_asm); (case zqT => k_asm); (case zqa => exact rfl); (case zqb => kernel_rfl!); (case zqc => kernel_rfl); (case zqe => k_is); (case zqk => k_is); (case zql => k_extra "LOCA"); k_whole)))
  k_with "eval Attribute Name" => (k_here; (with_reducible refine' attrO_loc ?zqF ?zqv ?zqa ?zqb ?zqc ?_); k_dflt ((case zqF => k_asm); (case zqa => exact rfl); (case zqb => kernel_rfl!); (case zqc => kernel_rfl); (case zqv => first | rfl | assumption); k_whole))
  k_with "ite" => (k_here; first | (k_closed; first | ((with_reducible refine ite_pos ?zqk2 ?_); k_dflt (case zqk2 => decide)) | ((with_reducible refine ite_neg ?zqk2 ?_); k_dflt (case zqk2 => decide))) | (refine' ite_bf ?zqk1 ?_; (case zqk1 => first | assumption | exact decide_eq_false (by omega) | exact beq_eq_false_iff_ne.mpr (by omega))) | (refine' ite_bt ?zqk1 ?_; (case zqk1 => first | assumption | exact decide_eq_true (by omega) | exact beq_iff_eq.mpr (by omega))))
  k_with "call type:dict" => (k_here; (with_reducible show wpAny _ _ (call (Value.type "dict") [Value.ref _]) _ _ _); k_dflt (refine' dict_copyK ?zqF ?zqN ?zqb ?zqm ?zqD ?zql ?zqz ?_; (case zqF => k_asm); (case zqN => k_asm); (case zqb => exact Top.nolimit (by k_asm)); (case zqm => k_mem); (case zqD => with_reducible assumption); (case zql => with_reducible assumption); (case zqz => omega); k_whole); intro d' h' o' F' N' l1 lo' hd'; (try k_lt l1))
  k_with "eval Name" => (k_here; first | ((with_reducible refine' nameO_L ?zqF ?zqv ?_ ?zqa ?zqb ?zqc); k_dflt ((case zqF => k_asm); (case zqa => exact rfl); (case zqb => kernel_rfl!); (case zqc => kernel_rfl); (case zqv => first | rfl | assumption); k_whole)) | ((with_reducible refine' nameO_K ?zqF ?zqX ?zqT ?zqe ?_ ?zqa ?zqb ?zqc); k_dflt ((case zqF => k_asm); (case zqX => k_asm); (case zqT => k_asm); (case zqa => exact rfl); (case zqb => kernel_rfl!); (case zqc => kernel_rfl); (case zqe => k_is); k_whole)) | ((with_reducible refine' nameC_L ?zqF ?zqv ?_ ?zqa ?zqb ?zqc); k_dflt ((case zqF => k_asm); (case zqa => exact rfl); (case zqb => kernel_rfl!); (case zqc => kernel_rfl); (case zqv => first | rfl | assumption); k_whole)) | ((with_reducible refine' nameC_K ?zqF ?zqX ?zqT ?zqe ?_ ?zqa ?zqb ?zqc); k_dflt ((case zqF => k_asm); (case zqX => k_asm); (case zqT => k_asm); (case zqa => exact rfl); (case zqb => kernel_rfl!); (case zqc => kernel_rfl); (case zqe => k_is); k_whole)))
  trivial
theorem kwF2_1 : True := by
  k_with "SUB" => first | exact sub_nil | ((with_reducible refine' sub_cons ?zqsm ?_); (case zqsm => k_mem); k_extra "SUB") | (refine sub_app ?_ ?_; (focus k_extra "SUB"); k_extra "SUB") | k_extra "SUT" | (intro p9 hp9; repeat' (first | exact hp9 | refine List.mem_cons_of_mem _ ?_ | exact List.mem_append.mpr (Or.inl hp9) | refine List.mem_append.mpr (Or.inr ?_)))
  k_with "OWN" => (intro p9 hp9; repeat' (first | exact hp9 | refine List.mem_cons_of_mem _ ?_ | exact List.mem_append.mpr (Or.inl hp9) | refine List.mem_append.mpr (Or.inr ?_)))
  k_with "ALL" => ((rename AllNe _ _ => hAn9); first | (refine AllNe.all ?_; exact hAn9) | (refine fun p hp => AllNe.all hAn9 p ?_; repeat' (first | exact hp | exact List.mem_append.mpr (Or.inl hp) | exact List.mem_append.mpr (Or.inr hp) | refine List.mem_cons_of_mem _ ?_)) | (clear hAn9; k_all))
  k_with "eval Name" => (k_here; (with_reducible show wpAny _ _ (eval (Expr.Name _ _) (envOfC _ _ _ _ _)) _ _ _); k_dflt (refine' ldLoc ?zqF ?zqv ?_ ?zqa ?zqb ?zqc; (case zqa => rfl); (case zqb => rfl); (case zqc => decide); (case zqF => k_asm); (case zqv => assumption); k_whole))
  k_with "call ref" => (k_here; (with_reducible show wpAny _ _ (call (Value.ref 810) _) _ _ _); k_dflt (refine' tells_callG (seen_tells (Hav.out ?zqhav)) ?zqkB ?zqkF ?zqkX ?zqkN ?zqkS ?zqkT ?zqkK ?zqkd ?zqku ?_; k_extra "CA"; (case zqhav => with_reducible assumption); (case zqkS => k_extra "SUK"); k_extra "CB"; k_whole; intro D9Z oD9Z out9Z nx9Z hD9Z hSn9Z hlo9Z h' tk' F' N' A'; replace N' := news_rot N'; (try simp only [List.cons_append, List.append_assoc] at N'); k_extra "CE"))
  k_with "compareOp Eq ref ref" => (k_here; (with_reducible show wpAny _ _ (compareOp CmpOp.Eq (Value.ref _) (Value.ref _)) _ _ _); k_dflt (first | (refine' eq_lists_len (vs := []) ?zqN ?zqa ?zqb ?zqh ?zqu ?_; (case zqN => k_asm); (case zqa => k_mem); (case zqb => k_mem); (case zqh => (have z9 : ([] : List Value).length = 0 := rfl; rw [z9]; omega)); (case zqu => k_extra "UNITS"); k_whole) | (refine' eq_lists (vs := []) ?zqN ?zqa ?zqb ?zqh ?zqu ?_; (case zqN => k_asm); (case zqa => k_mem); (case zqb => k_mem); (case zqh => exact SameL.nil_of (by omega)); (case zqu => k_extra "UNITS"); k_whole)))
  k_with "SAME" => first | assumption | exact rs_nil (by assumption) (by omega) | exact nts_no (by assumption) (by omega) | exact nts_yes (by assumption) (by omega) (by assumption) | exact SameL.okv (by assumption) | exact SameL.nil | exact SameL.nil_of (by omega)
  k_with "compareOp NotEq ref ref" => (k_here; (with_reducible show wpAny _ _ (compareOp CmpOp.NotEq (Value.ref _) (Value.ref _)) _ _ _); k_dflt (first | (refine' ne_trips ?zqN ?zqnd ?zqpl ?zqh1 ?zqh2 ?zqx1 ?zqx2 ?zqd1 ?zqd2 ?zqD1 ?zqD2 ?zqlo1 ?zqlo2 ?zqa ?zqb ?zql ?zqk ?zqs ?zqu ?_; (case zqN => k_asm); (case zqa => k_mem); (case zqb => k_mem); (case zql => k_mem); (case zqk => k_mem); (case zqd1 => k_mem); (case zqd2 => k_mem); (case zqD1 => assumption); (case zqD2 => assumption); (case zqh1 => assumption); (case zqh2 => assumption); (case zqnd => exact Good6.nd (by assumption)); (case zqpl => exact Good6.pl (by assumption)); (case zqlo1 => assumption); (case zqlo2 => assumption); (case zqx1 => k_extra "SUB"); (case zqx2 => k_extra "SUB"); (case zqs => k_extra "SAME"); (case zqu => k_extra "UNITS"); k_whole) | (refine' ne_pairs ?zqN ?zqa ?zqb ?zql ?zqk ?zqs ?zqu ?_; (case zqN => k_asm); (case zqa => k_mem); (case zqb => k_mem); (case zql => k_mem); (case zqk => k_mem); (case zqs => k_extra "SAME"); (case zqu => k_extra "UNITS"); k_whole) | (refine' ne_lists ?zqN ?zqa ?zqb ?zqs ?zqu ?_; (case zqN => k_asm); (case zqa => k_mem); (case zqb => k_mem); (case zqs => k_extra "SAME"); (case zqu => k_extra "UNITS"); k_whole)))
  trivial
theorem turn2 {w : World} {p : Program} {loose : List Str} {mean : ExcName → Option Value} {mg mb : Str → Option Value} {h₀ : Heap} {L fa : Addr} {cd : Value} {m : Str → Option Value} {s : Shared} {oc o oD : Obj} {x d li da : Addr} {t1 t2 t3 t4 t5 kt : Tok} {i n1 n2 : Nat} {av sh : Value} {es : List Value} {el ne : Nat} {D : Addr} {out : List (Str × Value)} {nx rest : List (Addr × Obj)} {as : List Att} {ts : Tok} {ov : Option Value} {E : Value → Shared → Prop} (B : Below callerA h₀ [] h₀) (X : (fragK.heap_1 w.params).In h₀) (T : Top p loose mean mg mb h₀) (F : Fr h₀ L s.heap m) (hm_v : m (Str.ofString "v") = some (.ref x)) (hm_sort_of : m (Str.ofString "sort_of") = some (.str (kS i) ts)) (hm_entries : m (Str.ofString "entries") = some (.ref el)) (hm_held : m (Str.ofString "held") = some (.ref D)) (N : News h₀ L s.heap ((L + 1, oc) :: (x, instObj 113 d) :: (d, dictOf (vd w.params t1 t2 t3 t4 t5 (.str (kS i) kt) (.ref li) av sh (.bool false)) n1) :: (da, o) :: (li, listOf es.toArray n2) :: (el, listOf es.toArray ne) :: (D, oD) :: (nx ++ (attLed w as ++ rest)))) (hoc : oc.data = .cell ov) (hi : i < 3) (hav : Hav w as av da o) (h6 : Good6 as) (hD : oD.IsDictOf (strKind PySem.Challenge.rw_pq1344_01.row.prog w) out) (hDlo : (D == sysModules) = false) (hSn : SeenR as out nx) (hus : ∀ u ∈ es, Okv i u) (hlen : es.length ≤ 20) :
    let e := (envOfC (Str.ofString "law") lawScope L fa cd); let A := callerA.deeper e; wpAny (model PySem.Challenge.rw_pq1344_01.row.prog w) A (exec (lawForAt 2) e) (Turned h₀ L m s ((x, instObj 113 d) :: (d, dictOf (vd w.params t1 t2 t3 t4 t5 (.str (kS i) kt) (.ref li) av sh (.bool false)) n1) :: (da, o) :: (li, listOf es.toArray n2) :: (el, listOf es.toArray ne) :: (D, oD) :: (nx ++ (attLed w as ++ rest)))) E s := by
  have eS : lawScope = ⟨_, _, _, _, _⟩ := rfl
  dsimp only at eS
  rw [eS]
  clear eS
  intro e9 A9
  show wpAny _ _ (exec (Stmt.If _ _ _ _) _) _ _ _
  (try k_fold)
  have hSame := SameL.okv hus
  repeat' ((fail_if_success (with_reducible show Turned _ _ _ _ _ _ _)); k_extra "S0"; k_extra "S1")
  all_goals (try dsimp only)
  all_goals exact turned_of (by k_asm) (by k_asm) (by k_mem) (by assumption) (by k_extra "SUB") (by exact Kept.of rfl rfl rfl rfl rfl rfl rfl rfl rfl rfl rfl)
theorem turn3V {w : World} {p : Program} {loose : List Str} {mean : ExcName → Option Value} {mg mb : Str → Option Value} {h₀ : Heap} {L fa : Addr} {cd : Value} {m : Str → Option Value} {s : Shared} {oc : Obj} {xv dv lv : Addr} {v1 v2 v3 v4 v5 vt : Tok} {vsh vlo : Value} {m1 m2 : Nat} {j ol nw : Nat} {ws : List Value} {rest : List (Addr × Obj)} {to : Tok} {ov : Option Value} {E : Value → Shared → Prop} (B : Below callerA h₀ [] h₀) (X : (fragK.heap_1 w.params).In h₀) (T : Top p loose mean mg mb h₀) (F : Fr h₀ L s.heap m) (hm_value : m (Str.ofString "value") = some (.ref xv)) (hm_empty_one : m (Str.ofString "empty_one") = some (.bool false)) (hm_other_sort : m (Str.ofString "other_sort") = some (.str (kS j) to)) (hm_others : m (Str.ofString "others") = some (.ref ol)) (N : News h₀ L s.heap ((L + 1, oc) :: (xv, instObj 113 dv) :: (dv, dictOf (vd w.params v1 v2 v3 v4 v5 (.str (kS j) vt) (.ref lv) .none vsh vlo) m1) :: (lv, listOf ws.toArray m2) :: (ol, listOf ws.toArray nw) :: rest)) (hoc : oc.data = .cell ov) (hj : j < 3) (hws : ∀ u ∈ ws, Okv j u) :
    let e := (envOfC (Str.ofString "law") lawScope L fa cd); let A := callerA.deeper e; wpAny (model PySem.Challenge.rw_pq1344_01.row.prog w) A (exec (lawForAt 3) e) (Turned h₀ L m s ((xv, instObj 113 dv) :: (dv, dictOf (vd w.params v1 v2 v3 v4 v5 (.str (kS j) vt) (.ref lv) .none vsh vlo) m1) :: (lv, listOf ws.toArray m2) :: (ol, listOf ws.toArray nw) :: rest)) E s := by
  have eS : lawScope = ⟨_, _, _, _, _⟩ := rfl
  dsimp only at eS
  rw [eS]
  clear eS
  intro e9 A9
  show wpAny _ _ (exec (Stmt.If _ _ _ _) _) _ _ _
  (try k_fold)
  have hSame := SameL.okv hws
  repeat' ((fail_if_success (with_reducible show Turned _ _ _ _ _ _ _)); k_extra "S0"; k_extra "S1")
  all_goals (try dsimp only)
  all_goals exact turned_of (by k_asm) (by k_asm) (by k_mem) (by assumption) (by k_extra "SUB") (by exact Kept.of rfl rfl rfl rfl rfl rfl rfl rfl rfl rfl rfl)
theorem turn3N {w : World} {p : Program} {loose : List Str} {mean : ExcName → Option Value} {mg mb : Str → Option Value} {h₀ : Heap} {L fa : Addr} {cd : Value} {m : Str → Option Value} {s : Shared} {oc : Obj} {rest : List (Addr × Obj)} {ov : Option Value} {E : Value → Shared → Prop} (B : Below callerA h₀ [] h₀) (X : (fragK.heap_1 w.params).In h₀) (T : Top p loose mean mg mb h₀) (F : Fr h₀ L s.heap m) (hm_empty_one : m (Str.ofString "empty_one") = some (.bool true)) (N : News h₀ L s.heap ((L + 1, oc) :: rest)) (hoc : oc.data = .cell ov) :
    let e := (envOfC (Str.ofString "law") lawScope L fa cd); let A := callerA.deeper e; wpAny (model PySem.Challenge.rw_pq1344_01.row.prog w) A (exec (lawForAt 3) e) (Turned h₀ L m s rest) E s := by
  have eS : lawScope = ⟨_, _, _, _, _⟩ := rfl
  dsimp only at eS
  rw [eS]
  clear eS
  intro e9 A9
  show wpAny _ _ (exec (Stmt.If _ _ _ _) _) _ _ _
  (try k_fold)
  repeat' ((fail_if_success (with_reducible show Turned _ _ _ _ _ _ _)); k_extra "S0"; k_extra "S1")
  all_goals (try dsimp only)
  all_goals exact turned_of (by k_asm) (by k_asm) (by k_mem) (by assumption) (by k_extra "SUB") (by exact Kept.of rfl rfl rfl rfl rfl rfl rfl rfl rfl rfl rfl)
end
section
open PySem PySem.W PyProof.Rows PySem.Calls
set_option Elab.async false
set_option maxRecDepth 100000 
set_option maxHeartbeats 8000000 
theorem kwF3_0 : True := by
  k_with_none
  k_with "MEM" => first | (with_reducible exact List.mem_cons_self) | ((with_reducible refine List.mem_cons_of_mem _ ?_); k_extra "MEM")
  k_with "ENTER" => (refine' code_defP ?zqk1 ?zqk2 ?zqk3 ?zqk4 ?zqk5 ?zqkA ?zqkF ?zqkK ?zqk6 ?zqk7 ?zqk8 ?zqk9 ?zqkB ?_ ?zqc2 ?zqc3 ?zqc4 ?zqc5; (case zqkA => exact rfl); (case zqkF => exact rfl); (case zqkK => exact rfl); (case zqk1 => k_asm); (case zqk2 => k_asm); (case zqk3 => k_asm); (case zqk4 => k_asm); (case zqk5 => k_asm); (case zqk6 => k_is); (case zqk7 => k_is); (case zqk8 => k_room); (case zqk9 => first | exact BindsTo.of_eq rfl | exact binds_K (by k_in) rfl (by k_is) rfl rfl rfl); (case zqc5 => decide); (case zqkB => exact locs rfl); (case zqc2 => exact rfl); (case zqc3 => exact rfl); (case zqc4 => exact rfl); k_whole; intro g' L' h' Q' FG' F' N' B' X' T' hQ' e9 A9; (try dsimp only); (try k_lift B'); (try k_fold))
  k_with "S0" => ((fail_if_success (with_reducible show Post _ _ _ _ _ _ _ _)); (fail_if_success (with_reducible show LoopP _ _ _ _ _ _ _ _)); (fail_if_success (with_reducible show CmpP _ _ _ _ _ _ _ _ _ _ _ _ _ _ _)))
  k_with "S1" => first | (k_unfold; (try dsimp only)) | (k_end; wrow_close) | walk1 | (with_reducible refine hand (by assumption) ?_; try dsimp only) | (dsimp only; walk1) | (leave1; try dsimp only)
  k_with "ROOM" => first | (refine' room0 ?zqh ?zqe; (case zqh => assumption); (case zqe => exact rfl)) | (refine' room1 ?zqh ?zqe; (case zqh => assumption); (case zqe => exact rfl)) | (refine' room2 ?zqh ?zqe; (case zqh => assumption); (case zqe => exact rfl)) | (refine' room3 ?zqh ?zqe; (case zqh => assumption); (case zqe => exact rfl)) | (refine' roomz ?zqh; (case zqh => assumption)) | ktr_room
  k_with "UNITS" => first | (refine' room0 ?zqh ?zqe; (case zqh => assumption); (case zqe => exact rfl)) | (refine' room1 ?zqh ?zqe; (case zqh => assumption); (case zqe => exact rfl)) | (refine' room2 ?zqh ?zqe; (case zqh => assumption); (case zqe => exact rfl)) | (refine' room3 ?zqh ?zqe; (case zqh => assumption); (case zqe => exact rfl)) | exact lt_num rfl | ktr_units
  k_with "AR" => first | assumption | exact Nat.le_max_right _ _ | exact Nat.le_max_left _ _ | exact Nat.max_lt.mpr ⟨by assumption, by assumption⟩ | (refine' le_up ?zqh ?zqe; (case zqh => assumption); (case zqe => exact rfl)) | omega
  k_with "SUT" => first | exact sub_self | (refine sub_skip ?_; k_extra "SUT")
  k_with "SUK" => first | exact sub_nil | k_extra "SUT" | k_extra "SUB"
  k_with "KEEP" => first | (refine keep_hd (List.Mem.head _) ?_; k_extra "KEEP") | exact keep_of (by k_extra "SUK") | ((with_reducible refine' keep_cons ?zqkm ?_); (case zqkm => k_mem); k_extra "KEEP")
  k_with "APQ" => (rename Apart _ _ => h9; first | exact Apart.at h9 (by k_extra "MEM") (by k_extra "MEM") | exact ap_at h9 (by k_extra "MEM") (by k_extra "MEM") | (clear h9; k_extra "APQ"))
  k_with "ANQ" => (rename AllNe _ _ => h9; first | exact AllNe.at h9 (by k_extra "MEM") | exact an_at h9 (by k_extra "MEM") | (clear h9; k_extra "ANQ"))
  k_with "ALQ" => (rename AllLt _ _ => h9; first | exact lt_ne h9 (by k_extra "MEM") | exact lt_en h9 (by k_extra "MEM") | exact lt_ne2 h9 (by assumption) (by k_extra "MEM") | exact lt_en2 h9 (by assumption) (by k_extra "MEM") | (clear h9; k_extra "ALQ"))
  k_with "NEQ" => first | assumption | exact Ne.symm (by assumption) | exact Nat.ne_of_lt (by assumption) | exact Nat.ne_of_gt (by assumption) | k_extra "ALQ" | k_extra "ANQ" | k_extra "APQ" | omega
  k_with "APS" => (rename Apart _ _ => h9; first | exact Apart.subA h9 rfl (by k_extra "SUK") | (clear h9; k_extra "APS"))
  k_with "NE1" => (refine neN ?_; (try dsimp only); k_extra "NEQ")
  k_with "ALL" => first | exact all_nil | (rename AllLt _ _ => h9; exact lt_sub h9 (by k_extra "SUT")) | (refine' all_cons ?zqa ?zqb; (case zqa => k_ne); (case zqb => k_all))
  k_with "ALN" => first | exact ne_nil | (refine ne_cons ?_ ?_; (focus ((try dsimp only); k_extra "NEQ")); k_extra "ALN")
  k_with "APM" => first | exact ap_nil | k_extra "APS" | (refine ap_cons ?_ ?_; (focus k_extra "ALN"); k_extra "APM")
  k_with "CA" => ((case zqkB => k_asm); (case zqkF => k_asm); (case zqkX => k_asm); (case zqkN => k_asm))
  k_with "CB" => ((case zqkT => k_asm); (case zqkK => first | exact rfl | assumption); (case zqkd => k_extra "ROOM"); (case zqku => k_extra "UNITS"))
  k_with "CE" => all_goals ((try ((with_reducible rename News _ _ _ _ => h9); simp only [List.nil_append, List.cons_append] at h9)); (try ((with_reducible rename Apart [] _ => h7); clear h7)); (try dsimp only [Option.getD_some, Option.getD_none]); (try k_sweep); (try k_fold))
  k_with "CZ" => all_goals ((try dsimp only [Option.getD_some, Option.getD_none]); (try k_sweep); (try k_fold))
  k_with "call builtin:len" => (k_here; (with_reducible show wpAny _ _ (call (Value.builtin "len") [Value.ref _]) _ _ _); k_dflt (refine' len_sym ?zqk1 ?zqk2 ?zqk3 ?_; (case zqk1 => k_asm); (case zqk2 => k_mem); (case zqk3 => k_extra "AR"); k_whole))
  k_with "getMethod ref" => (k_here; (with_reducible show wpAny _ _ (getMethod (Value.ref _) (PySem.Str.ofString "get") _) _ _ _); k_dflt (refine' get_method ?zqk1 ?zqk2 ?zqk3 ?_; (case zqk1 => k_asm); (case zqk2 => k_mem); (case zqk3 => with_reducible assumption); k_whole))
  k_with "call builtin:dict.get" => (k_here; (with_reducible show wpAny _ _ (call (Value.builtin "dict.get") [Value.ref _, Value.str _ _]) _ _ _); k_dflt (refine' get_call ?zqk0 ?zqk1 ?zqk2 ?zqk3 ?_; (case zqk1 => k_asm); (case zqk2 => k_mem); (case zqk3 => with_reducible assumption); (case zqk0 => with_reducible assumption); k_whole))
  k_with "LOCA" => first | exact LocArgs.nil | (refine' LocArgs.cons ?zqlk ?zqld ?zqlv ?zqlt; (case zqlk => kernel_rfl!); (case zqld => kernel_rfl); (case zqlv => first | rfl | assumption); (case zqlt => k_extra "LOCA"))
  k_with "eval Call" => (k_here; (with_reducible show wpAny _ _ (eval (Expr.Call (Expr.Name _ _) (Expr.Name _ _ :: _) [] _) _) _ _ _); first | ((with_reducible refine' callO_loc ?zqF ?zqX ?zqT ?zqe ?zqk ?zqa ?zqb ?zqc ?zql ?_); k_dflt ((case zqF => k_asm); (case zqX => k_asm); (case zqT => k_asm); (case zqa => exact rfl); (case zqb => kernel_rfl!); (case zqc => kernel_rfl); (case zqe => k_is); (case zqk => k_is); (case zql => k_extra "LOCA"); k_whole)) | ((with_reducible refine' callC_loc ?zqF ?zqX ?zqT ?zqe ?zqk ?zqa ?zqb ?zqc ?zql ?_); k_dflt ((case zqF => k_asm); (case zqX => k_asm); (case zqT => k_asm); (case zqa => exact rfl); (case zqb => kernel_rfl!); (case zqc => kernel_rfl); (case zqe => k_is); (case zqk => k_is); (case zql => k_extra "LOCA"); k_whole)))
  k_with "eval Attribute Name" => (k_here; (with_reducible refine' attrO_loc ?zqF ?zqv ?zqa ?zqb ?zqc ?_); k_dflt ((case zqF => k_asm); (case zqa => exact rfl); (case zqb => kernel_rfl!); (case zqc => kernel_rfl); (case zqv => first | rfl | assumption); k_whole))
  k_with "ite" => (k_here; first | (k_closed; first | ((with_reducible refine ite_pos ?zqk2 ?_); k_dflt (case zqk2 => decide)) | ((with_reducible refine ite_neg ?zqk2 ?_); k_dflt (case zqk2 => decide))) | (refine' ite_bf ?zqk1 ?_; (case zqk1 => first | assumption | exact decide_eq_false (by omega) | exact beq_eq_false_iff_ne.mpr (by omega))) | (refine' ite_bt ?zqk1 ?_; (case zqk1 => first | assumption | exact decide_eq_true (by omega) | exact beq_iff_eq.mpr (by omega))))
  k_with "call type:dict" => (k_here; (with_reducible show wpAny _ _ (call (Value.type "dict") [Value.ref _]) _ _ _); k_dflt (refine' dict_copyK ?zqF ?zqN ?zqb ?zqm ?zqD ?zql ?zqz ?_; (case zqF => k_asm); (case zqN => k_asm); (case zqb => exact Top.nolimit (by k_asm)); (case zqm => k_mem); (case zqD => with_reducible assumption); (case zql => with_reducible assumption); (case zqz => omega); k_whole); intro d' h' o' F' N' l1 lo' hd'; (try k_lt l1))
  k_with "eval Name" => (k_here; first | ((with_reducible refine' nameO_L ?zqF ?zqv ?_ ?zqa ?zqb ?zqc); k_dflt ((case zqF => k_asm); (case zqa => exact rfl); (case zqb => kernel_rfl!); (case zqc => kernel_rfl); (case zqv => first | rfl | assumption); k_whole)) | ((with_reducible refine' nameO_K ?zqF ?zqX ?zqT ?zqe ?_ ?zqa ?zqb ?zqc); k_dflt ((case zqF => k_asm); (case zqX => k_asm); (case zqT => k_asm); (case zqa => exact rfl); (case zqb => kernel_rfl!); (case zqc => kernel_rfl); (case zqe => k_is); k_whole)) | ((with_reducible refine' nameC_L ?zqF ?zqv ?_ ?zqa ?zqb ?zqc); k_dflt ((case zqF => k_asm); (case zqa => exact rfl); (case zqb => kernel_rfl!); (case zqc => kernel_rfl); (case zqv => first | rfl | assumption); k_whole)) | ((with_reducible refine' nameC_K ?zqF ?zqX ?zqT ?zqe ?_ ?zqa ?zqb ?zqc); k_dflt ((case zqF => k_asm); (case zqX => k_asm); (case zqT => k_asm); (case zqa => exact rfl); (case zqb => kernel_rfl!); (case zqc => kernel_rfl); (case zqe => k_is); k_whole)))
  trivial
theorem kwF3_1 : True := by
  k_with "SUB" => first | exact sub_nil | ((with_reducible refine' sub_cons ?zqsm ?_); (case zqsm => k_mem); k_extra "SUB") | (refine sub_app ?_ ?_; (focus k_extra "SUB"); k_extra "SUB") | k_extra "SUT" | (intro p9 hp9; repeat' (first | exact hp9 | refine List.mem_cons_of_mem _ ?_ | exact List.mem_append.mpr (Or.inl hp9) | refine List.mem_append.mpr (Or.inr ?_)))
  k_with "OWN" => (intro p9 hp9; repeat' (first | exact hp9 | refine List.mem_cons_of_mem _ ?_ | exact List.mem_append.mpr (Or.inl hp9) | refine List.mem_append.mpr (Or.inr ?_)))
  k_with "ALL" => ((rename AllNe _ _ => hAn9); first | (refine AllNe.all ?_; exact hAn9) | (refine fun p hp => AllNe.all hAn9 p ?_; repeat' (first | exact hp | exact List.mem_append.mpr (Or.inl hp) | exact List.mem_append.mpr (Or.inr hp) | refine List.mem_cons_of_mem _ ?_)) | (clear hAn9; k_all))
  k_with "eval Name" => (k_here; (with_reducible show wpAny _ _ (eval (Expr.Name _ _) (envOfC _ _ _ _ _)) _ _ _); k_dflt (refine' ldLoc ?zqF ?zqv ?_ ?zqa ?zqb ?zqc; (case zqa => rfl); (case zqb => rfl); (case zqc => decide); (case zqF => k_asm); (case zqv => assumption); k_whole))
  k_with "call ref" => (k_here; (with_reducible show wpAny _ _ (call (Value.ref 817) _) _ _ _); k_dflt (refine' tells_callG (tried_null ?zqhqs ?zqhi ?zqhDr ?zqhu0) ?zqkB ?zqkF ?zqkX ?zqkN ?zqkS ?zqkT ?zqkK ?zqkd ?zqku ?_; k_extra "CA"; (case zqhDr => with_reducible assumption); (case zqkS => k_extra "SUK"); (case zqhqs => assumption); (case zqhi => with_reducible assumption); (case zqhu0 => k_extra "AR"); k_extra "CB"; k_whole; intro T9Z nt9Z n09Z n8Z te9Z h' tk' F' N' A'; k_extra "CE"))
  k_with "call ref" => (k_here; (with_reducible show wpAny _ _ (call (Value.ref 810) _) _ _ _); k_dflt (refine' tells_callG (seen_tells (Hav.out ?zqhav)) ?zqkB ?zqkF ?zqkX ?zqkN ?zqkS ?zqkT ?zqkK ?zqkd ?zqku ?_; k_extra "CA"; (case zqhav => with_reducible assumption); (case zqkS => k_extra "SUK"); k_extra "CB"; k_whole; intro D9Z oD9Z out9Z nx9Z hD9Z hSn9Z hlo9Z h' tk' F' N' A'; replace N' := news_rot N'; (try simp only [List.cons_append, List.append_assoc] at N'); k_extra "CE"))
  k_with "compareOp Eq ref ref" => (k_here; (with_reducible show wpAny _ _ (compareOp CmpOp.Eq (Value.ref _) (Value.ref _)) _ _ _); k_dflt (first | (refine' eq_lists_len (vs := []) ?zqN ?zqa ?zqb ?zqh ?zqu ?_; (case zqN => k_asm); (case zqa => k_mem); (case zqb => k_mem); (case zqh => (have z9 : ([] : List Value).length = 0 := rfl; rw [z9]; omega)); (case zqu => k_extra "UNITS"); k_whole) | (refine' eq_lists (vs := []) ?zqN ?zqa ?zqb ?zqh ?zqu ?_; (case zqN => k_asm); (case zqa => k_mem); (case zqb => k_mem); (case zqh => exact SameL.nil_of (by omega)); (case zqu => k_extra "UNITS"); k_whole)))
  k_with "SAME" => first | assumption | exact rs_nil (by assumption) (by omega) | exact nts_no (by assumption) (by omega) | exact nts_yes (by assumption) (by omega) (by assumption) | exact SameL.okv (by assumption) | exact SameL.nil | exact SameL.nil_of (by omega)
  k_with "compareOp NotEq ref ref" => (k_here; (with_reducible show wpAny _ _ (compareOp CmpOp.NotEq (Value.ref _) (Value.ref _)) _ _ _); k_dflt (first | (refine' ne_trips ?zqN ?zqnd ?zqpl ?zqh1 ?zqh2 ?zqx1 ?zqx2 ?zqd1 ?zqd2 ?zqD1 ?zqD2 ?zqlo1 ?zqlo2 ?zqa ?zqb ?zql ?zqk ?zqs ?zqu ?_; (case zqN => k_asm); (case zqa => k_mem); (case zqb => k_mem); (case zql => k_mem); (case zqk => k_mem); (case zqd1 => k_mem); (case zqd2 => k_mem); (case zqD1 => assumption); (case zqD2 => assumption); (case zqh1 => assumption); (case zqh2 => assumption); (case zqnd => exact Good6.nd (by assumption)); (case zqpl => exact Good6.pl (by assumption)); (case zqlo1 => assumption); (case zqlo2 => assumption); (case zqx1 => k_extra "SUB"); (case zqx2 => k_extra "SUB"); (case zqs => k_extra "SAME"); (case zqu => k_extra "UNITS"); k_whole) | (refine' ne_pairs ?zqN ?zqa ?zqb ?zql ?zqk ?zqs ?zqu ?_; (case zqN => k_asm); (case zqa => k_mem); (case zqb => k_mem); (case zql => k_mem); (case zqk => k_mem); (case zqs => k_extra "SAME"); (case zqu => k_extra "UNITS"); k_whole) | (refine' ne_lists ?zqN ?zqa ?zqb ?zqs ?zqu ?_; (case zqN => k_asm); (case zqa => k_mem); (case zqb => k_mem); (case zqs => k_extra "SAME"); (case zqu => k_extra "UNITS"); k_whole)))
  trivial
theorem turn0N {w : World} {p : Program} {loose : List Str} {mean : ExcName → Option Value} {mg mb : Str → Option Value} {h₀ : Heap} {L fa : Addr} {cd : Value} {m : Str → Option Value} {s : Shared} {oc o ex ed eld oD : Obj} {ql q9 : Nat} {qs : List Value} {ix dm : Addr} {y1 y2 y3 : Tok} {n9 : Nat} {x d li da xd dd ld : Addr} {t1 t2 t3 t4 t5 kt : Tok} {i n1 n2 : Nat} {av sh : Value} {es ws : List Value} {ol nw : Nat} {kl nk : Nat} {ka kb kc : Tok} {D : Addr} {out : List (Str × Value)} {nx rest : List (Addr × Obj)} {as : List Att} {tp ts to : Tok} {j : Nat} {ov : Option Value} {E : Value → Shared → Prop} {xv dv : Addr} {z1 z2 z3 : Tok} {m1 : Nat} (B : Below callerA h₀ [] h₀) (X : (fragK.heap_1 w.params).In h₀) (T : Top p loose mean mg mb h₀) (F : Fr h₀ L s.heap m) (hm_v : m (Str.ofString "v") = some (.ref x)) (hm_indexes : m (Str.ofString "indexes") = some (.ref ql)) (hm_value : m (Str.ofString "value") = some (.ref xv)) (hm_places : m (Str.ofString "places") = some (.int (es.length : Int) tp)) (hm_empty_one : m (Str.ofString "empty_one") = some (.bool true)) (hm_sort_of : m (Str.ofString "sort_of") = some (.str (kS i) ts)) (hm_held : m (Str.ofString "held") = some (.ref D)) (N : News h₀ L s.heap ((L + 1, oc) :: (ql, listOf qs.toArray q9) :: (ix, instObj 84 dm) :: (dm, dictOf [ent w.params (Str.ofString "kind") y1 (.str (Str.ofString "missing") y2), ent w.params (Str.ofString "attrs") y3 .none] n9) :: (x, instObj 113 d) :: (d, dictOf (vd w.params t1 t2 t3 t4 t5 (.str (kS i) kt) (.ref li) av sh (.bool false)) n1) :: (da, o) :: (xd, ex) :: (dd, ed) :: (ld, eld) :: (li, listOf es.toArray n2) :: (xv, instObj 63 dv) :: (dv, dictOf [ent w.params (Str.ofString "kind") z1 (.str (Str.ofString "NULL") z2), ent w.params (Str.ofString "attrs") z3 .none] m1) :: (D, oD) :: (nx ++ (attLed w as ++ rest)))) (hoc : oc.data = .cell ov) (hqs : qs = [] ∨ qs = [.ref ix]) (hi : i < 3) (hDr : Dr w av da o (attKvs as) xd dd ld ex ed eld) (hlen : es.length ≤ 20) (hu0 : es.length = 0) (hav : Hav w as av da o) (h6 : Good6 as) (hD : oD.IsDictOf (strKind PySem.Challenge.rw_pq1344_01.row.prog w) out) (hDlo : (D == sysModules) = false) (hSn : SeenR as out nx) :
    let e := (envOfC (Str.ofString "law") lawScope L fa cd); let A := callerA.deeper e; wpAny (model PySem.Challenge.rw_pq1344_01.row.prog w) A (execs (lawFor.take 2) e) (Turned h₀ L m s ((ql, listOf qs.toArray q9) :: (ix, instObj 84 dm) :: (dm, dictOf [ent w.params (Str.ofString "kind") y1 (.str (Str.ofString "missing") y2), ent w.params (Str.ofString "attrs") y3 .none] n9) :: (x, instObj 113 d) :: (d, dictOf (vd w.params t1 t2 t3 t4 t5 (.str (kS i) kt) (.ref li) av sh (.bool false)) n1) :: (da, o) :: (xd, ex) :: (dd, ed) :: (ld, eld) :: (li, listOf es.toArray n2) :: (xv, instObj 63 dv) :: (dv, dictOf [ent w.params (Str.ofString "kind") z1 (.str (Str.ofString "NULL") z2), ent w.params (Str.ofString "attrs") z3 .none] m1) :: (D, oD) :: (nx ++ (attLed w as ++ rest)))) E s := by
  have eS : lawScope = ⟨_, _, _, _, _⟩ := rfl
  dsimp only at eS
  rw [eS]
  clear eS
  intro e9 A9
  show wpAny _ _ (execs (_ :: _ :: []) _) _ _ _
  (try k_fold)
  repeat' ((fail_if_success (with_reducible show Turned _ _ _ _ _ _ _)); k_extra "S0"; k_extra "S1")
  all_goals (try dsimp only)
  all_goals exact turned_of (by k_asm) (by k_asm) (by k_mem) (by assumption) (by k_extra "SUB") (by exact Kept.of rfl rfl rfl rfl rfl rfl rfl rfl rfl rfl rfl)
theorem kwF3_2 : True := by
  k_with "call ref" => (k_here; (with_reducible show wpAny _ _ (call (Value.ref 817) _) _ _ _); k_dflt (refine' tells0_call (tried_nullX ?zqhqs ?zqhi ?zqhDr ?zqhu0 ?zqhlen) ?zqkR ?zqkB ?zqkF ?zqkX ?zqkXB ?zqkN ?zqkS ?zqkT ?zqkTB ?zqkK ?zqkd ?zqku ?_; k_extra "CA"; (case zqkXB => k_asm); (case zqhDr => with_reducible assumption); (case zqkS => k_extra "SUK"); (case zqhqs => assumption); (case zqhi => with_reducible assumption); (case zqhu0 => k_extra "AR"); (case zqhlen => k_extra "AR"); k_extra "CB"; (case zqkTB => k_asm); (case zqkR => (intro r9 n9 hz; obtain ⟨T9, nt9, n09, n8, te9, e1, e2, hA9⟩ := hz; subst e2; exact hA9)); k_whole; intro r' h' tk' new' F' N' A'; (rintro ⟨T9, nt9, n09, n8, te9, e1, e2, hA9⟩; clear hA9; subst e1; subst e2); k_extra "CE"))
  trivial
theorem turn0NX {w : World} {p : Program} {loose : List Str} {mean : ExcName → Option Value} {mg mb : Str → Option Value} {h₀ : Heap} {L fa : Addr} {cd : Value} {m : Str → Option Value} {s : Shared} {oc o ex ed eld oD : Obj} {ql q9 : Nat} {qs : List Value} {ix dm : Addr} {y1 y2 y3 : Tok} {n9 : Nat} {x d li da xd dd ld : Addr} {t1 t2 t3 t4 t5 kt : Tok} {i n1 n2 : Nat} {av sh : Value} {es ws : List Value} {ol nw : Nat} {kl nk : Nat} {ka kb kc : Tok} {D : Addr} {out : List (Str × Value)} {nx rest : List (Addr × Obj)} {as : List Att} {tp ts to : Tok} {j : Nat} {ov : Option Value} {E : Value → Shared → Prop} {xv dv : Addr} {z1 z2 z3 : Tok} {m1 : Nat} (B : Below callerA h₀ [] h₀) (X : (fragK.heap_1 w.params).In h₀) (T : Top p loose mean mg mb h₀) (F : Fr h₀ L s.heap m) (hm_v : m (Str.ofString "v") = some (.ref x)) (hm_indexes : m (Str.ofString "indexes") = some (.ref ql)) (hm_value : m (Str.ofString "value") = some (.ref xv)) (hm_places : m (Str.ofString "places") = some (.int (es.length : Int) tp)) (hm_empty_one : m (Str.ofString "empty_one") = some (.bool true)) (N : News h₀ L s.heap ((L + 1, oc) :: (ql, listOf qs.toArray q9) :: (ix, instObj 84 dm) :: (dm, dictOf [ent w.params (Str.ofString "kind") y1 (.str (Str.ofString "missing") y2), ent w.params (Str.ofString "attrs") y3 .none] n9) :: (x, instObj 113 d) :: (d, dictOf (vd w.params t1 t2 t3 t4 t5 (.str (kS i) kt) (.ref li) av sh (.bool false)) n1) :: (da, o) :: (xd, ex) :: (dd, ed) :: (ld, eld) :: (li, listOf es.toArray n2) :: (xv, instObj 63 dv) :: (dv, dictOf [ent w.params (Str.ofString "kind") z1 (.str (Str.ofString "NULL") z2), ent w.params (Str.ofString "attrs") z3 .none] m1) :: (D, oD) :: (nx ++ (attLed w as ++ rest)))) (hoc : oc.data = .cell ov) (hqs : qs = [] ∨ qs = [.ref ix]) (hi : i < 3) (hDr : Dr w av da o (attKvs as) xd dd ld ex ed eld) (hlen : es.length ≤ 20) (hu0 : 0 < es.length) :
    let e := (envOfC (Str.ofString "law") lawScope L fa cd); let A := callerA.deeper e; wpAny (model PySem.Challenge.rw_pq1344_01.row.prog w) A (execs (lawFor.take 2) e) (Turned h₀ L m s ((ql, listOf qs.toArray q9) :: (ix, instObj 84 dm) :: (dm, dictOf [ent w.params (Str.ofString "kind") y1 (.str (Str.ofString "missing") y2), ent w.params (Str.ofString "attrs") y3 .none] n9) :: (x, instObj 113 d) :: (d, dictOf (vd w.params t1 t2 t3 t4 t5 (.str (kS i) kt) (.ref li) av sh (.bool false)) n1) :: (da, o) :: (xd, ex) :: (dd, ed) :: (ld, eld) :: (li, listOf es.toArray n2) :: (xv, instObj 63 dv) :: (dv, dictOf [ent w.params (Str.ofString "kind") z1 (.str (Str.ofString "NULL") z2), ent w.params (Str.ofString "attrs") z3 .none] m1) :: (D, oD) :: (nx ++ (attLed w as ++ rest)))) E s := by
  have eS : lawScope = ⟨_, _, _, _, _⟩ := rfl
  dsimp only at eS
  rw [eS]
  clear eS
  intro e9 A9
  show wpAny _ _ (execs (_ :: _ :: []) _) _ _ _
  (try k_fold)
  repeat' ((fail_if_success (with_reducible show Turned _ _ _ _ _ _ _)); k_extra "S0"; k_extra "S1")
  all_goals (try dsimp only)
  all_goals exact turned_of (by k_asm) (by k_asm) (by k_mem) (by assumption) (by k_extra "SUB") (by exact Kept.of rfl rfl rfl rfl rfl rfl rfl rfl rfl rfl rfl)
theorem kwF3_3 : True := by
  k_with "call ref" => (k_here; (with_reducible show wpAny _ _ (call (Value.ref 817) _) _ _ _); k_dflt (refine' tells0_call (tried_raise ?zqhqs ?zqhi ?zqhDr ?zqhj ?zqhu0 ?zqhw0 ?zqhlen) ?zqkR ?zqkB ?zqkF ?zqkX ?zqkXB ?zqkN ?zqkS ?zqkT ?zqkTB ?zqkK ?zqkd ?zqku ?_; k_extra "CA"; (case zqkXB => k_asm); (case zqhDr => with_reducible assumption); (case zqkS => k_extra "SUK"); (case zqhqs => assumption); (case zqhi => with_reducible assumption); (case zqhj => with_reducible assumption); (case zqhu0 => k_extra "AR"); (case zqhw0 => k_extra "AR"); (case zqhlen => k_extra "AR"); k_extra "CB"; (case zqkTB => k_asm); (case zqkR => (intro r9 n9 hz; obtain ⟨T9, nt9, n09, n8, te9, e1, e2, hA9⟩ := hz; subst e2; exact hA9)); k_whole; intro r' h' tk' new' F' N' A'; (rintro ⟨T9, nt9, n09, n8, te9, e1, e2, hA9⟩; clear hA9; subst e1; subst e2); k_extra "CE"))
  trivial
theorem turn0VX {w : World} {p : Program} {loose : List Str} {mean : ExcName → Option Value} {mg mb : Str → Option Value} {h₀ : Heap} {L fa : Addr} {cd : Value} {m : Str → Option Value} {s : Shared} {oc o ex ed eld oD : Obj} {ql q9 : Nat} {qs : List Value} {ix dm : Addr} {y1 y2 y3 : Tok} {n9 : Nat} {x d li da xd dd ld : Addr} {t1 t2 t3 t4 t5 kt : Tok} {i n1 n2 : Nat} {av sh : Value} {es ws : List Value} {ol nw : Nat} {kl nk : Nat} {ka kb kc : Tok} {D : Addr} {out : List (Str × Value)} {nx rest : List (Addr × Obj)} {as : List Att} {tp ts to : Tok} {j : Nat} {ov : Option Value} {E : Value → Shared → Prop} {xv dv lv : Addr} {v1 v2 v3 v4 v5 vt : Tok} {vsh vlo : Value} {m1 m2 : Nat} (B : Below callerA h₀ [] h₀) (X : (fragK.heap_1 w.params).In h₀) (T : Top p loose mean mg mb h₀) (F : Fr h₀ L s.heap m) (hm_v : m (Str.ofString "v") = some (.ref x)) (hm_indexes : m (Str.ofString "indexes") = some (.ref ql)) (hm_value : m (Str.ofString "value") = some (.ref xv)) (hm_places : m (Str.ofString "places") = some (.int (es.length : Int) tp)) (hm_empty_one : m (Str.ofString "empty_one") = some (.bool false)) (hm_others : m (Str.ofString "others") = some (.ref ol)) (N : News h₀ L s.heap ((L + 1, oc) :: (ql, listOf qs.toArray q9) :: (ix, instObj 84 dm) :: (dm, dictOf [ent w.params (Str.ofString "kind") y1 (.str (Str.ofString "missing") y2), ent w.params (Str.ofString "attrs") y3 .none] n9) :: (x, instObj 113 d) :: (d, dictOf (vd w.params t1 t2 t3 t4 t5 (.str (kS i) kt) (.ref li) av sh (.bool false)) n1) :: (da, o) :: (xd, ex) :: (dd, ed) :: (ld, eld) :: (li, listOf es.toArray n2) :: (xv, instObj 113 dv) :: (dv, dictOf (vd w.params v1 v2 v3 v4 v5 (.str (kS j) vt) (.ref lv) .none vsh vlo) m1) :: (lv, listOf ws.toArray m2) :: (ol, listOf ws.toArray nw) :: (kl, listOf #[.str (Str.ofString "logical") ka, .str (Str.ofString "integer") kb, .str (Str.ofString "character") kc] nk) :: (D, oD) :: (nx ++ (attLed w as ++ rest)))) (hoc : oc.data = .cell ov) (hqs : qs = [] ∨ qs = [.ref ix]) (hi : i < 3) (hDr : Dr w av da o (attKvs as) xd dd ld ex ed eld) (hlen : es.length ≤ 20) (hj : j < 3) (hu0 : 0 < es.length) (hw0 : ws.length = 0) :
    let e := (envOfC (Str.ofString "law") lawScope L fa cd); let A := callerA.deeper e; wpAny (model PySem.Challenge.rw_pq1344_01.row.prog w) A (execs (lawFor.take 2) e) (Turned h₀ L m s ((ql, listOf qs.toArray q9) :: (ix, instObj 84 dm) :: (dm, dictOf [ent w.params (Str.ofString "kind") y1 (.str (Str.ofString "missing") y2), ent w.params (Str.ofString "attrs") y3 .none] n9) :: (x, instObj 113 d) :: (d, dictOf (vd w.params t1 t2 t3 t4 t5 (.str (kS i) kt) (.ref li) av sh (.bool false)) n1) :: (da, o) :: (xd, ex) :: (dd, ed) :: (ld, eld) :: (li, listOf es.toArray n2) :: (xv, instObj 113 dv) :: (dv, dictOf (vd w.params v1 v2 v3 v4 v5 (.str (kS j) vt) (.ref lv) .none vsh vlo) m1) :: (lv, listOf ws.toArray m2) :: (ol, listOf ws.toArray nw) :: (kl, listOf #[.str (Str.ofString "logical") ka, .str (Str.ofString "integer") kb, .str (Str.ofString "character") kc] nk) :: (D, oD) :: (nx ++ (attLed w as ++ rest)))) E s := by
  have eS : lawScope = ⟨_, _, _, _, _⟩ := rfl
  dsimp only at eS
  rw [eS]
  clear eS
  intro e9 A9
  show wpAny _ _ (execs (_ :: _ :: []) _) _ _ _
  (try k_fold)
  repeat' ((fail_if_success (with_reducible show Turned _ _ _ _ _ _ _)); k_extra "S0"; k_extra "S1")
  all_goals (try dsimp only)
  all_goals exact turned_of (by k_asm) (by k_asm) (by k_mem) (by assumption) (by k_extra "SUB") (by exact Kept.of rfl rfl rfl rfl rfl rfl rfl rfl rfl rfl rfl)
end
section
open PySem PySem.W PyProof.Rows PySem.Calls PySem.Spec
set_option Elab.async false
set_option maxRecDepth 100000
set_option maxHeartbeats 4000000
theorem wp_execs_app {M : Model} {env : Env} {Γ : PySem.Ctx} {P : Flow → Pos → Shared → Prop} {X : Value → Pos → Shared → Prop} : ∀ (l1 l2 : List Stmt) {p : Pos} {s : Shared}, Sem.wp M Γ (execs l1 env) (fun f p' s' => match f with | .next => Sem.wp M Γ (execs l2 env) P X p' s' | f => P f p' s') X p s → Sem.wp M Γ (execs (l1 ++ l2) env) P X p s
  | [], _, _, _, h => h
  | a :: r, l2, p, s, h => by
    rw [List.cons_append, execs_cons, Sem.wp_bind']
    rw [execs_cons, Sem.wp_bind'] at h
    refine Sem.wp_mono M Γ _ (fun f p' s' h' => ?_) (fun _ _ _ h' => h') _ _ h
    cases f <;> first | exact wp_execs_app r l2 h' | exact h'
theorem execs_app {M : Model} {A : Around} {env : Env} {Q : Flow → Shared → Prop} {E : Value → Shared → Prop} {s : Shared} {l1 l2 : List Stmt} (h : wpAny M A (execs l1 env) (fun fl s' => fl = .next ∧ wpAny M A (execs l2 env) Q E s') E s) : wpAny M A (execs (l1 ++ l2) env) Q E s := fun Γ p hΓ => by
  refine wp_execs_app l1 l2 (Sem.wp_mono M Γ _ (fun f p' s' h' => ?_) (fun _ _ _ h' => h') _ _ (h Γ p hΓ))
  obtain ⟨rfl, h'⟩ := h'
  exact h' Γ p' hΓ
theorem Turned.weak {h₀ : Heap} {L : Addr} {m : Str → Option Value} {s₀ : Shared} {l all : List (Addr × Obj)} {fl : Flow} {s' : Shared} (h : Turned h₀ L m s₀ l fl s') (hs : ∀ q ∈ all, q ∈ l) : Turned h₀ L m s₀ all fl s' := by
  obtain ⟨rfl, h, tk, m', oc, ov, rfl, F, hd, N, K⟩ := h
  exact ⟨rfl, h, tk, m', oc, ov, rfl, F, hd, fun q hq => (List.mem_cons.mp hq).elim (fun e => N q (e ▸ .head _)) fun hq => N q (.tail _ (hs q hq)), K⟩
theorem Turned.comp {h₀ : Heap} {L : Addr} {m m' : Str → Option Value} {s₀ : Shared} {h : Heap} {tk : Nat} {all : List (Addr × Obj)} {fl : Flow} {s' : Shared} (K : Kept m m') (h : Turned h₀ L m' { s₀ with heap := h, toks := tk } all fl s') : Turned h₀ L m s₀ all fl s' := by
  obtain ⟨rfl, h, tk, m2, oc, ov, rfl, F, hd, N, K2⟩ := h
  exact ⟨rfl, h, tk, m2, oc, ov, rfl, F, hd, N, K.trans K2⟩
theorem Kept.get {m m' : Str → Option Value} {k : Str} {v : Option Value} (K : Kept m m') (h : m k = v) (hk : k ∈ lawKeep := by simp [lawKeep]) : m' k = v := (K k hk).trans h
theorem news_front {h₀ h : Heap} {L : Addr} {c : Addr × Obj} {l all : List (Addr × Obj)} (N : News h₀ L h (c :: all)) (hs : ∀ q ∈ l, q ∈ all) : News h₀ L h (c :: l) := fun q hq => (List.mem_cons.mp hq).elim (fun e => N q (e ▸ .head _)) fun hq => N q (.tail _ (hs q hq))
structure LawM (m : Str → Option Value) (x xv ol D kl el : Addr) (n : Int) (b : Bool) (ki kj : Str) (tp ts to : Tok) : Prop where
  v : m (Str.ofString "v") = some (.ref x)
  value : m (Str.ofString "value") = some (.ref xv)
  places : m (Str.ofString "places") = some (.int n tp)
  empty : m (Str.ofString "empty_one") = some (.bool b)
  others : m (Str.ofString "others") = some (.ref ol)
  sort : m (Str.ofString "sort_of") = some (.str ki ts)
  other : m (Str.ofString "other_sort") = some (.str kj to)
  entries : m (Str.ofString "entries") = some (.ref el)
  held : m (Str.ofString "held") = some (.ref D)
  kinds : m (Str.ofString "kinds") = some (.ref kl)
theorem LawM.kept {m m' : Str → Option Value} {x xv ol D kl el : Addr} {n : Int} {b : Bool} {ki kj : Str} {tp ts to : Tok} (h : LawM m x xv ol D kl el n b ki kj tp ts to) (K : Kept m m') : LawM m' x xv ol D kl el n b ki kj tp ts to :=
  ⟨K.get h.v, K.get h.value, K.get h.places, K.get h.empty, K.get h.others, K.get h.sort, K.get h.other, K.get h.entries, K.get h.held, K.get h.kinds⟩
theorem bodyV {w : World} {p : Program} {loose : List Str} {mean : ExcName → Option Value} {mg mb : Str → Option Value} {h₀ : Heap} {L fa : Addr} {cd : Value} {m : Str → Option Value} {s : Shared} {oc o ex ed eld oD : Obj} {ql q9 : Nat} {qs : List Value} {ix dm : Addr} {y1 y2 y3 : Tok} {n9 : Nat} {x d li da xd dd ld : Addr} {t1 t2 t3 t4 t5 kt : Tok} {i n1 n2 : Nat} {av sh : Value} {es ws : List Value} {ol nw : Nat} {kl nk : Nat} {ka kb kc : Tok} {D : Addr} {out : List (Str × Value)} {nx all : List (Addr × Obj)} {el ne : Nat} {as : List Att} {tp ts to : Tok} {j : Nat} {ov : Option Value} {E : Value → Shared → Prop} {xv dv lv : Addr} {v1 v2 v3 v4 v5 vt : Tok} {vsh vlo : Value} {m1 m2 : Nat} (B : Below callerA h₀ [] h₀) (X : (fragK.heap_1 w.params).In h₀) (T : Top p loose mean mg mb h₀) (F : Fr h₀ L s.heap m) (M : LawM m x xv ol D kl el (es.length : Int) false (kS i) (kS j) tp ts to) (hm_i : m (Str.ofString "indexes") = some (.ref ql)) (N : News h₀ L s.heap ((L + 1, oc) :: all)) (hoc : oc.data = .cell ov) (hcell : AllNe (L + 1) all) (hqm : ∀ q ∈ [(ql, listOf qs.toArray q9), (ix, instObj 84 dm), (dm, dictOf [ent w.params (Str.ofString "kind") y1 (.str (Str.ofString "missing") y2), ent w.params (Str.ofString "attrs") y3 .none] n9)], q ∈ all) (hm : ∀ q ∈ [(x, instObj 113 d), (d, dictOf (vd w.params t1 t2 t3 t4 t5 (.str (kS i) kt) (.ref li) av sh (.bool false)) n1), (da, o), (xd, ex), (dd, ed), (ld, eld), (li, listOf es.toArray n2), (el, listOf es.toArray ne), (ol, listOf ws.toArray nw), (kl, listOf #[.str (Str.ofString "logical") ka, .str (Str.ofString "integer") kb, .str (Str.ofString "character") kc] nk), (D, oD), (xv, instObj 113 dv), (dv, dictOf (vd w.params v1 v2 v3 v4 v5 (.str (kS j) vt) (.ref lv) .none vsh vlo) m1), (lv, listOf ws.toArray m2)], q ∈ all) (hnx : ∀ q ∈ nx, q ∈ all) (hat : ∀ q ∈ attLed w as, q ∈ all) (hqs : qs = [] ∨ qs = [.ref ix]) (hi : i < 3) (hj : j < 3) (hDr : Dr w av da o (attKvs as) xd dd ld ex ed eld) (hlen : es.length ≤ 20) (hus : ∀ u ∈ es, Okv i u) (hws : ∀ u ∈ ws, Okv j u) (hwl : ws.length ≤ 20) (hav0 : (av = .none ∧ as = []) ∨ (av = .ref da)) (h6' : Good6' as) (hav : Hav w as av da o) (h6 : Good6 as) (hD : oD.IsDictOf (strKind PySem.Challenge.rw_pq1344_01.row.prog w) out) (hDlo : (D == sysModules) = false) (hSn : SeenR as out nx) :
    wpAny (model PySem.Challenge.rw_pq1344_01.row.prog w) (callerA.deeper (envOfC (Str.ofString "law") lawScope L fa cd)) (execs lawFor (envOfC (Str.ofString "law") lawScope L fa cd)) (fun fl s' => Turned h₀ L m s all fl s') E s := by
  refine wo ?_
  simp (disch :=
  k_dflt (
  refine wk ?_
  have hV : ∀ q ∈ (ql, listOf qs.toArray q9) :: (ix, instObj 84 dm) :: (dm, dictOf [ent w.params (Str.ofString "kind") y1 (.str (Str.ofString "missing") y2), ent w.params (Str.ofString "attrs") y3 .none] n9) :: (x, instObj 113 d) :: (d, dictOf (vd w.params t1 t2 t3 t4 t5 (.str (kS i) kt) (.ref li) av sh (.bool false)) n1) :: (da, o) :: (xd, ex) :: (dd, ed) :: (ld, eld) :: (li, listOf es.toArray n2) :: (xv, instObj 113 dv) :: (dv, dictOf (vd w.params v1 v2 v3 v4 v5 (.str (kS j) vt) (.ref lv) .none vsh vlo) m1) :: (lv, listOf ws.toArray m2) :: (ol, listOf ws.toArray nw) :: (kl, listOf #[.str (Str.ofString "logical") ka, .str (Str.ofString "integer") kb, .str (Str.ofString "character") kc] nk) :: (D, oD) :: (nx ++ (attLed w as ++ all)), q ∈ all := by
    repeat (first | refine List.forall_mem_cons.mpr ⟨hm _ (by k_mem), ?_⟩ | refine List.forall_mem_cons.mpr ⟨hqm _ (by k_mem), ?_⟩)
    exact List.forall_mem_append.mpr ⟨hnx, List.forall_mem_append.mpr ⟨hat, fun _ z => z⟩⟩
  have hV2 : ∀ q ∈ (x, instObj 113 d) :: (d, dictOf (vd w.params t1 t2 t3 t4 t5 (.str (kS i) kt) (.ref li) av sh (.bool false)) n1) :: (da, o) :: (li, listOf es.toArray n2) :: (el, listOf es.toArray ne) :: (D, oD) :: (nx ++ (attLed w as ++ all)), q ∈ all := by
    repeat (first | refine List.forall_mem_cons.mpr ⟨hm _ (by k_mem), ?_⟩ | refine List.forall_mem_cons.mpr ⟨hqm _ (by k_mem), ?_⟩)
    exact List.forall_mem_append.mpr ⟨hnx, List.forall_mem_append.mpr ⟨hat, fun _ z => z⟩⟩
  have hV3 : ∀ q ∈ (xv, instObj 113 dv) :: (dv, dictOf (vd w.params v1 v2 v3 v4 v5 (.str (kS j) vt) (.ref lv) .none vsh vlo) m1) :: (lv, listOf ws.toArray m2) :: (ol, listOf ws.toArray nw) :: all, q ∈ all := by
    repeat (first | refine List.forall_mem_cons.mpr ⟨hm _ (by k_mem), ?_⟩ | refine List.forall_mem_cons.mpr ⟨hqm _ (by k_mem), ?_⟩)
    exact fun _ z => z
  have hc : AllNe (L + 1) ((ql, listOf qs.toArray q9) :: (ix, instObj 84 dm) :: (dm, dictOf [ent w.params (Str.ofString "kind") y1 (.str (Str.ofString "missing") y2), ent w.params (Str.ofString "attrs") y3 .none] n9) :: (x, instObj 113 d) :: (d, dictOf (vd w.params t1 t2 t3 t4 t5 (.str (kS i) kt) (.ref li) av sh (.bool false)) n1) :: (da, o) :: (xd, ex) :: (dd, ed) :: (ld, eld) :: (li, listOf es.toArray n2) :: (xv, instObj 113 dv) :: (dv, dictOf (vd w.params v1 v2 v3 v4 v5 (.str (kS j) vt) (.ref lv) .none vsh vlo) m1) :: (lv, listOf ws.toArray m2) :: (ol, listOf ws.toArray nw) :: (kl, listOf #[.str (Str.ofString "logical") ka, .str (Str.ofString "integer") kb, .str (Str.ofString "character") kc] nk) :: (D, oD) :: (nx ++ (attLed w as ++ all))) := AllNe.of fun q hq => hcell.all q (hV q hq)
  have t01 : wpAny (model PySem.Challenge.rw_pq1344_01.row.prog w) (callerA.deeper (envOfC (Str.ofString "law") lawScope L fa cd)) (execs (lawFor.take 2) (envOfC (Str.ofString "law") lawScope L fa cd)) (Turned h₀ L m s all) E s := by
    have hw : (es.length = 0 ∨ 0 < ws.length) ∨ (0 < es.length ∧ ws.length = 0) := by omega
    rcases hw with hok | ⟨hu0, hw0⟩
    · exact wpAny_mono (turn0V (rest := all) B X T F M.v hm_i M.value M.places M.empty M.others M.sort M.other M.held M.kinds (news_front N hV) hoc hqs hi hDr hlen hc hj hus hws hwl hok hav0 h6' h6 hD hDlo hSn) (fun fl s' h => h.weak (fun q hq => by simp [hq])) (fun _ _ e => e)
    · exact wpAny_mono (turn0VX (rest := all) (nx := nx) (ts := ts) (to := to) (out := out) B X T F M.v hm_i M.value M.places M.empty M.others (news_front N hV) hoc hqs hi hDr hlen hj hu0 hw0) (fun fl s' h => h.weak (fun q hq => by simp [hq])) (fun _ _ e => e)
  show wpAny _ _ (execs (lawFor.take 2 ++ [lawForAt 2, lawForAt 3]) _) _ _ _
  refine execs_app (wpAny_mono t01 (fun fl s' h => ?_) (fun _ _ e => e))
  obtain ⟨rfl, h, tk, m', oc', ov', rfl, F', hd', N', K'⟩ := h
  have M' := M.kept K'
  refine ⟨rfl, wpAny_execs_cons (wpAny_mono (turn2 (rest := all) B X T F' M'.v M'.sort M'.entries M'.held (news_front N' hV2) hd' hi hav h6 hD hDlo hSn hus hlen) (fun fl s' h => ?_) (fun _ _ e => e))⟩
  have h := h.weak (all := all) (fun q hq => by simp [hq])
  obtain ⟨rfl, h2, tk2, m2, oc2, ov2, rfl, F2, hd2, N2, K2⟩ := h
  have M2 := M'.kept K2
  refine wpAny_execs_cons (wpAny_mono (turn3V (rest := all) B X T F2 M2.value M2.empty M2.other M2.others (news_front N2 hV3) hd2 hj hws) (fun fl s' h => ?_) (fun _ _ e => e))
  obtain ⟨rfl, h3, tk3, m3, oc3, ov3, rfl, F3, hd3, N3, K3⟩ := h
  exact wpAny_execs_nil ⟨rfl, h3, tk3, m3, oc3, ov3, rfl, F3, hd3, news_front N3 (fun q hq => by simp [hq]), (K'.trans K2).trans K3⟩
  )) only [↓wt]
theorem bodyN {w : World} {p : Program} {loose : List Str} {mean : ExcName → Option Value} {mg mb : Str → Option Value} {h₀ : Heap} {L fa : Addr} {cd : Value} {m : Str → Option Value} {s : Shared} {oc o ex ed eld oD : Obj} {ql q9 : Nat} {qs : List Value} {ix dm : Addr} {y1 y2 y3 : Tok} {n9 : Nat} {x d li da xd dd ld : Addr} {t1 t2 t3 t4 t5 kt : Tok} {i n1 n2 : Nat} {av sh : Value} {es ws : List Value} {ol nw : Nat} {kl nk : Nat} {ka kb kc : Tok} {D : Addr} {out : List (Str × Value)} {nx all : List (Addr × Obj)} {el ne : Nat} {as : List Att} {tp ts to : Tok} {j : Nat} {ov : Option Value} {E : Value → Shared → Prop} {xv dv : Addr} {z1 z2 z3 : Tok} {m1 : Nat} (B : Below callerA h₀ [] h₀) (X : (fragK.heap_1 w.params).In h₀) (T : Top p loose mean mg mb h₀) (F : Fr h₀ L s.heap m) (M : LawM m x xv ol D kl el (es.length : Int) true (kS i) (kS j) tp ts to) (hm_i : m (Str.ofString "indexes") = some (.ref ql)) (N : News h₀ L s.heap ((L + 1, oc) :: all)) (hoc : oc.data = .cell ov) (hcell : AllNe (L + 1) all) (hqm : ∀ q ∈ [(ql, listOf qs.toArray q9), (ix, instObj 84 dm), (dm, dictOf [ent w.params (Str.ofString "kind") y1 (.str (Str.ofString "missing") y2), ent w.params (Str.ofString "attrs") y3 .none] n9)], q ∈ all) (hm : ∀ q ∈ [(x, instObj 113 d), (d, dictOf (vd w.params t1 t2 t3 t4 t5 (.str (kS i) kt) (.ref li) av sh (.bool false)) n1), (da, o), (xd, ex), (dd, ed), (ld, eld), (li, listOf es.toArray n2), (el, listOf es.toArray ne), (ol, listOf ws.toArray nw), (kl, listOf #[.str (Str.ofString "logical") ka, .str (Str.ofString "integer") kb, .str (Str.ofString "character") kc] nk), (D, oD), (xv, instObj 63 dv), (dv, dictOf [ent w.params (Str.ofString "kind") z1 (.str (Str.ofString "NULL") z2), ent w.params (Str.ofString "attrs") z3 .none] m1)], q ∈ all) (hnx : ∀ q ∈ nx, q ∈ all) (hat : ∀ q ∈ attLed w as, q ∈ all) (hqs : qs = [] ∨ qs = [.ref ix]) (hi : i < 3) (hj : j < 3) (hDr : Dr w av da o (attKvs as) xd dd ld ex ed eld) (hlen : es.length ≤ 20) (hus : ∀ u ∈ es, Okv i u) (hws : ∀ u ∈ ws, Okv j u) (hwl : ws.length ≤ 20) (hav0 : (av = .none ∧ as = []) ∨ (av = .ref da)) (h6' : Good6' as) (hav : Hav w as av da o) (h6 : Good6 as) (hD : oD.IsDictOf (strKind PySem.Challenge.rw_pq1344_01.row.prog w) out) (hDlo : (D == sysModules) = false) (hSn : SeenR as out nx) :
    wpAny (model PySem.Challenge.rw_pq1344_01.row.prog w) (callerA.deeper (envOfC (Str.ofString "law") lawScope L fa cd)) (execs lawFor (envOfC (Str.ofString "law") lawScope L fa cd)) (fun fl s' => Turned h₀ L m s all fl s') E s := by
  refine wo ?_
  simp (disch :=
  k_dflt (
  refine wk ?_
  have hV : ∀ q ∈ (ql, listOf qs.toArray q9) :: (ix, instObj 84 dm) :: (dm, dictOf [ent w.params (Str.ofString "kind") y1 (.str (Str.ofString "missing") y2), ent w.params (Str.ofString "attrs") y3 .none] n9) :: (x, instObj 113 d) :: (d, dictOf (vd w.params t1 t2 t3 t4 t5 (.str (kS i) kt) (.ref li) av sh (.bool false)) n1) :: (da, o) :: (xd, ex) :: (dd, ed) :: (ld, eld) :: (li, listOf es.toArray n2) :: (xv, instObj 63 dv) :: (dv, dictOf [ent w.params (Str.ofString "kind") z1 (.str (Str.ofString "NULL") z2), ent w.params (Str.ofString "attrs") z3 .none] m1) :: (D, oD) :: (nx ++ (attLed w as ++ all)), q ∈ all := by
    repeat (first | refine List.forall_mem_cons.mpr ⟨hm _ (by k_mem), ?_⟩ | refine List.forall_mem_cons.mpr ⟨hqm _ (by k_mem), ?_⟩)
    exact List.forall_mem_append.mpr ⟨hnx, List.forall_mem_append.mpr ⟨hat, fun _ z => z⟩⟩
  have hV2 : ∀ q ∈ (x, instObj 113 d) :: (d, dictOf (vd w.params t1 t2 t3 t4 t5 (.str (kS i) kt) (.ref li) av sh (.bool false)) n1) :: (da, o) :: (li, listOf es.toArray n2) :: (el, listOf es.toArray ne) :: (D, oD) :: (nx ++ (attLed w as ++ all)), q ∈ all := by
    repeat (first | refine List.forall_mem_cons.mpr ⟨hm _ (by k_mem), ?_⟩ | refine List.forall_mem_cons.mpr ⟨hqm _ (by k_mem), ?_⟩)
    exact List.forall_mem_append.mpr ⟨hnx, List.forall_mem_append.mpr ⟨hat, fun _ z => z⟩⟩
  have t01 : wpAny (model PySem.Challenge.rw_pq1344_01.row.prog w) (callerA.deeper (envOfC (Str.ofString "law") lawScope L fa cd)) (execs (lawFor.take 2) (envOfC (Str.ofString "law") lawScope L fa cd)) (Turned h₀ L m s all) E s := by
    rcases Nat.eq_zero_or_pos es.length with hu0 | hu0
    · exact wpAny_mono (turn0N (rest := all) (j := j) (to := to) (ws := ws) (ol := ol) (nw := nw) (kl := kl) (nk := nk) (ka := ka) (kb := kb) (kc := kc) B X T F M.v hm_i M.value M.places M.empty M.sort M.held (news_front N hV) hoc hqs hi hDr hlen hu0 hav h6 hD hDlo hSn) (fun fl s' h => h.weak (fun q hq => by simp [hq])) (fun _ _ e => e)
    · exact wpAny_mono (turn0NX (rest := all) (nx := nx) (j := j) (to := to) (ts := ts) (ws := ws) (ol := ol) (nw := nw) (kl := kl) (nk := nk) (ka := ka) (kb := kb) (kc := kc) (out := out) B X T F M.v hm_i M.value M.places M.empty (news_front N hV) hoc hqs hi hDr hlen hu0) (fun fl s' h => h.weak (fun q hq => by simp [hq])) (fun _ _ e => e)
  show wpAny _ _ (execs (lawFor.take 2 ++ [lawForAt 2, lawForAt 3]) _) _ _ _
  refine execs_app (wpAny_mono t01 (fun fl s' h => ?_) (fun _ _ e => e))
  obtain ⟨rfl, h, tk, m', oc', ov', rfl, F', hd', N', K'⟩ := h
  have M' := M.kept K'
  refine ⟨rfl, wpAny_execs_cons (wpAny_mono (turn2 (rest := all) B X T F' M'.v M'.sort M'.entries M'.held (news_front N' hV2) hd' hi hav h6 hD hDlo hSn hus hlen) (fun fl s' h => ?_) (fun _ _ e => e))⟩
  have h := h.weak (all := all) (fun q hq => by simp [hq])
  obtain ⟨rfl, h2, tk2, m2, oc2, ov2, rfl, F2, hd2, N2, K2⟩ := h
  have M2 := M'.kept K2
  refine wpAny_execs_cons (wpAny_mono (turn3N (rest := all) B X T F2 M2.empty N2 hd2) (fun fl s' h => ?_) (fun _ _ e => e))
  obtain ⟨rfl, h3, tk3, m3, oc3, ov3, rfl, F3, hd3, N3, K3⟩ := h
  exact wpAny_execs_nil ⟨rfl, h3, tk3, m3, oc3, ov3, rfl, F3, hd3, N3, (K'.trans K2).trans K3⟩
  )) only [↓wt]
end
section
open PySem PySem.W PyProof.Rows PySem.Calls
set_option Elab.async false
set_option maxRecDepth 100000 
set_option maxHeartbeats 8000000 
theorem kwL5_0 : True := by
  k_with_none
  k_with "MEM" => first | (with_reducible exact List.mem_cons_self) | ((with_reducible refine List.mem_cons_of_mem _ ?_); k_extra "MEM")
  k_with "ENTER" => (refine' code_defP ?zqk1 ?zqk2 ?zqk3 ?zqk4 ?zqk5 ?zqkA ?zqkF ?zqkK ?zqk6 ?zqk7 ?zqk8 ?zqk9 ?zqkB ?_ ?zqc2 ?zqc3 ?zqc4 ?zqc5; (case zqkA => exact rfl); (case zqkF => exact rfl); (case zqkK => exact rfl); (case zqk1 => k_asm); (case zqk2 => k_asm); (case zqk3 => k_asm); (case zqk4 => k_asm); (case zqk5 => k_asm); (case zqk6 => k_is); (case zqk7 => k_is); (case zqk8 => k_room); (case zqk9 => first | exact BindsTo.of_eq rfl | exact binds_K (by k_in) rfl (by k_is) rfl rfl rfl); (case zqc5 => decide); (case zqkB => exact locs rfl); (case zqc2 => exact rfl); (case zqc3 => exact rfl); (case zqc4 => exact rfl); k_whole; intro g' L' h' Q' FG' F' N' B' X' T' hQ' e9 A9; (try dsimp only); (try k_lift B'); (try k_fold))
  k_with "S0" => ((fail_if_success (with_reducible show Post _ _ _ _ _ _ _ _)); (fail_if_success (with_reducible show LoopP _ _ _ _ _ _ _ _)); (fail_if_success (with_reducible show CmpP _ _ _ _ _ _ _ _ _ _ _ _ _ _ _)))
  k_with "S1" => first | (k_unfold; (try dsimp only)) | (k_end; wrow_close) | walk1 | (with_reducible refine hand (by assumption) ?_; try dsimp only) | (dsimp only; walk1) | (leave1; try dsimp only)
  k_with "ROOM" => first | (refine' room0 ?zqh ?zqe; (case zqh => assumption); (case zqe => exact rfl)) | (refine' room1 ?zqh ?zqe; (case zqh => assumption); (case zqe => exact rfl)) | (refine' room2 ?zqh ?zqe; (case zqh => assumption); (case zqe => exact rfl)) | (refine' room3 ?zqh ?zqe; (case zqh => assumption); (case zqe => exact rfl)) | (refine' roomz ?zqh; (case zqh => assumption)) | ktr_room
  k_with "UNITS" => first | (refine' room0 ?zqh ?zqe; (case zqh => assumption); (case zqe => exact rfl)) | (refine' room1 ?zqh ?zqe; (case zqh => assumption); (case zqe => exact rfl)) | (refine' room2 ?zqh ?zqe; (case zqh => assumption); (case zqe => exact rfl)) | (refine' room3 ?zqh ?zqe; (case zqh => assumption); (case zqe => exact rfl)) | exact lt_num rfl | ktr_units
  k_with "AR" => first | assumption | exact Nat.le_max_right _ _ | exact Nat.le_max_left _ _ | exact Nat.max_lt.mpr ⟨by assumption, by assumption⟩ | (refine' le_up ?zqh ?zqe; (case zqh => assumption); (case zqe => exact rfl)) | omega
  k_with "SUT" => first | exact sub_self | (refine sub_skip ?_; k_extra "SUT")
  k_with "SUK" => first | exact sub_nil | k_extra "SUT" | k_extra "SUB"
  k_with "KEEP" => first | (refine keep_hd (List.Mem.head _) ?_; k_extra "KEEP") | exact keep_of (by k_extra "SUK") | ((with_reducible refine' keep_cons ?zqkm ?_); (case zqkm => k_mem); k_extra "KEEP")
  k_with "APQ" => (rename Apart _ _ => h9; first | exact Apart.at h9 (by k_extra "MEM") (by k_extra "MEM") | exact ap_at h9 (by k_extra "MEM") (by k_extra "MEM") | (clear h9; k_extra "APQ"))
  k_with "ANQ" => (rename AllNe _ _ => h9; first | exact AllNe.at h9 (by k_extra "MEM") | exact an_at h9 (by k_extra "MEM") | (clear h9; k_extra "ANQ"))
  k_with "ALQ" => (rename AllLt _ _ => h9; first | exact lt_ne h9 (by k_extra "MEM") | exact lt_en h9 (by k_extra "MEM") | exact lt_ne2 h9 (by assumption) (by k_extra "MEM") | exact lt_en2 h9 (by assumption) (by k_extra "MEM") | (clear h9; k_extra "ALQ"))
  k_with "NEQ" => first | assumption | exact Ne.symm (by assumption) | exact Nat.ne_of_lt (by assumption) | exact Nat.ne_of_gt (by assumption) | k_extra "ALQ" | k_extra "ANQ" | k_extra "APQ" | omega
  k_with "APS" => (rename Apart _ _ => h9; first | exact Apart.subA h9 rfl (by k_extra "SUK") | (clear h9; k_extra "APS"))
  k_with "NE1" => (refine neN ?_; (try dsimp only); k_extra "NEQ")
  k_with "ALL" => first | exact all_nil | (rename AllLt _ _ => h9; exact lt_sub h9 (by k_extra "SUT")) | (refine' all_cons ?zqa ?zqb; (case zqa => k_ne); (case zqb => k_all))
  k_with "ALN" => first | exact ne_nil | (refine ne_cons ?_ ?_; (focus ((try dsimp only); k_extra "NEQ")); k_extra "ALN")
  k_with "APM" => first | exact ap_nil | k_extra "APS" | (refine ap_cons ?_ ?_; (focus k_extra "ALN"); k_extra "APM")
  k_with "CA" => ((case zqkB => k_asm); (case zqkF => k_asm); (case zqkX => k_asm); (case zqkN => k_asm))
  k_with "CB" => ((case zqkT => k_asm); (case zqkK => first | exact rfl | assumption); (case zqkd => k_extra "ROOM"); (case zqku => k_extra "UNITS"))
  k_with "CE" => all_goals ((try ((with_reducible rename News _ _ _ _ => h9); simp only [List.nil_append, List.cons_append] at h9)); (try ((with_reducible rename Apart [] _ => h7); clear h7)); (try dsimp only [Option.getD_some, Option.getD_none]); (try k_sweep); (try k_fold))
  k_with "CZ" => all_goals ((try dsimp only [Option.getD_some, Option.getD_none]); (try k_sweep); (try k_fold))
  k_with "call builtin:len" => (k_here; (with_reducible show wpAny _ _ (call (Value.builtin "len") [Value.ref _]) _ _ _); k_dflt (refine' len_sym ?zqk1 ?zqk2 ?zqk3 ?_; (case zqk1 => k_asm); (case zqk2 => k_mem); (case zqk3 => k_extra "AR"); k_whole))
  k_with "getMethod ref" => (k_here; (with_reducible show wpAny _ _ (getMethod (Value.ref _) (PySem.Str.ofString "get") _) _ _ _); k_dflt (refine' get_method ?zqk1 ?zqk2 ?zqk3 ?_; (case zqk1 => k_asm); (case zqk2 => k_mem); (case zqk3 => with_reducible assumption); k_whole))
  k_with "call builtin:dict.get" => (k_here; (with_reducible show wpAny _ _ (call (Value.builtin "dict.get") [Value.ref _, Value.str _ _]) _ _ _); k_dflt (refine' get_call ?zqk0 ?zqk1 ?zqk2 ?zqk3 ?_; (case zqk1 => k_asm); (case zqk2 => k_mem); (case zqk3 => with_reducible assumption); (case zqk0 => with_reducible assumption); k_whole))
  k_with "LOCA" => first | exact LocArgs.nil | (refine' LocArgs.cons ?zqlk ?zqld ?zqlv ?zqlt; (case zqlk => kernel_rfl!); (case zqld => kernel_rfl); (case zqlv => first | rfl | assumption); (case zqlt => k_extra "LOCA"))
  k_with "eval Call" => (k_here; (with_reducible show wpAny _ _ (eval (Expr.Call (Expr.Name _ _) (Expr.Name _ _ :: _) [] _) _) _ _ _); first | ((with_reducible refine' callO_loc ?zqF ?zqX ?zqT ?zqe ?zqk ?zqa ?zqb ?zqc ?zql ?_); k_dflt ((case zqF => k_asm); (case zqX => k_asm); (case zqT => k_asm); (case zqa => exact rfl); (case zqb => kernel_rfl!); (case zqc => kernel_rfl); (case zqe => k_is); (case zqk => k_is); (case zql => k_extra "LOCA"); k_whole)) | ((with_reducible refine' callC_loc ?zqF ?zqX ?zqT ?zqe ?zqk ?zqa ?zqb ?zqc ?zql ?_); k_dflt ((case zqF => k_asm); (case zqX => k_asm); (case zqT => k_asm); (case zqa => exact rfl); (case zqb => kernel_rfl!); (case zqc => kernel_rfl); (case zqe => k_is); (case zqk => k_is); (case zql => k_extra "LOCA"); k_whole)))
  k_with "eval Attribute Name" => (k_here; (with_reducible refine' attrO_loc ?zqF ?zqv ?zqa ?zqb ?zqc ?_); k_dflt ((case zqF => k_asm); (case zqa => exact rfl); (case zqb => kernel_rfl!); (case zqc => kernel_rfl); (case zqv => first | rfl | assumption); k_whole))
  k_with "ite" => (k_here; first | (k_closed; first | ((with_reducible refine ite_pos ?zqk2 ?_); k_dflt (case zqk2 => decide)) | ((with_reducible refine ite_neg ?zqk2 ?_); k_dflt (case zqk2 => decide))) | (refine' ite_bf ?zqk1 ?_; (case zqk1 => first | assumption | exact decide_eq_false (by omega) | exact beq_eq_false_iff_ne.mpr (by omega))) | (refine' ite_bt ?zqk1 ?_; (case zqk1 => first | assumption | exact decide_eq_true (by omega) | exact beq_iff_eq.mpr (by omega))))
  k_with "call type:dict" => (k_here; (with_reducible show wpAny _ _ (call (Value.type "dict") [Value.ref _]) _ _ _); k_dflt (refine' dict_copyK ?zqF ?zqN ?zqb ?zqm ?zqD ?zql ?zqz ?_; (case zqF => k_asm); (case zqN => k_asm); (case zqb => exact Top.nolimit (by k_asm)); (case zqm => k_mem); (case zqD => with_reducible assumption); (case zql => with_reducible assumption); (case zqz => omega); k_whole); intro d' h' o' F' N' l1 lo' hd'; (try k_lt l1))
  k_with "eval Name" => (k_here; first | ((with_reducible refine' nameO_L ?zqF ?zqv ?_ ?zqa ?zqb ?zqc); k_dflt ((case zqF => k_asm); (case zqa => exact rfl); (case zqb => kernel_rfl!); (case zqc => kernel_rfl); (case zqv => first | rfl | assumption); k_whole)) | ((with_reducible refine' nameO_K ?zqF ?zqX ?zqT ?zqe ?_ ?zqa ?zqb ?zqc); k_dflt ((case zqF => k_asm); (case zqX => k_asm); (case zqT => k_asm); (case zqa => exact rfl); (case zqb => kernel_rfl!); (case zqc => kernel_rfl); (case zqe => k_is); k_whole)) | ((with_reducible refine' nameC_L ?zqF ?zqv ?_ ?zqa ?zqb ?zqc); k_dflt ((case zqF => k_asm); (case zqa => exact rfl); (case zqb => kernel_rfl!); (case zqc => kernel_rfl); (case zqv => first | rfl | assumption); k_whole)) | ((with_reducible refine' nameC_K ?zqF ?zqX ?zqT ?zqe ?_ ?zqa ?zqb ?zqc); k_dflt ((case zqF => k_asm); (case zqX => k_asm); (case zqT => k_asm); (case zqa => exact rfl); (case zqb => kernel_rfl!); (case zqc => kernel_rfl); (case zqe => k_is); k_whole)))
  trivial
theorem kwL5_1 : True := by
  k_with "SUB" => first | exact sub_nil | ((with_reducible refine' sub_cons ?zqsm ?_); (case zqsm => k_mem); k_extra "SUB") | (refine sub_app ?_ ?_; (focus k_extra "SUB"); k_extra "SUB") | k_extra "SUT" | (intro p9 hp9; repeat' (first | exact hp9 | refine List.mem_cons_of_mem _ ?_ | exact List.mem_append.mpr (Or.inl hp9) | refine List.mem_append.mpr (Or.inr ?_)))
  k_with "OWN" => (intro p9 hp9; repeat' (first | exact hp9 | refine List.mem_cons_of_mem _ ?_ | exact List.mem_append.mpr (Or.inl hp9) | refine List.mem_append.mpr (Or.inr ?_)))
  k_with "ALL" => ((rename AllNe _ _ => hAn9); first | (refine AllNe.all ?_; exact hAn9) | (refine fun p hp => AllNe.all hAn9 p ?_; repeat' (first | exact hp | exact List.mem_append.mpr (Or.inl hp) | exact List.mem_append.mpr (Or.inr hp) | refine List.mem_cons_of_mem _ ?_)) | (clear hAn9; k_all))
  k_with "eval Name" => (k_here; (with_reducible show wpAny _ _ (eval (Expr.Name _ _) (envOfC _ _ _ _ _)) _ _ _); k_dflt (refine' ldLoc ?zqF ?zqv ?_ ?zqa ?zqb ?zqc; (case zqa => rfl); (case zqb => rfl); (case zqc => decide); (case zqF => k_asm); (case zqv => assumption); k_whole))
  k_with "call ref" => (k_here; (with_reducible show wpAny _ _ (call (Value.ref 153) _) _ _ _); k_dflt (refine' tellsN_callG (missing_new (k := .none) (it := .none)) ?zqkB ?zqkF ?zqkX ?zqkN ?zqkT ?zqkK ?zqkd ?zqku ?_; k_extra "CA"; k_extra "CB"; k_whole; intro x9Z d9Z n98Z q91Z q92Z q93Z hdx9Z h' tk' F' N' A'; k_extra "CE"))
  k_with "exec For Name List cons nil" => (k_here; (rename Fr _ _ _ _ => lF'); (with_unfolding_all refine' For_invVF lF' ?zqk1 ?zqk2 ?_; (case zqk1 => exact rfl); (case zqk2 => exact rfl); k_whole))
  k_with "QM" => first | exact List.forall_mem_nil _ | (refine List.forall_mem_cons.mpr ⟨List.mem_append_left _ (by k_extra "MEM"), ?_⟩; k_extra "QM")
  trivial
def Looped (h₀ : Heap) (L : Addr) (s₀ : Shared) (fl : Flow) (s' : Shared) : Prop := fl = .next ∧ ∃ h tk m', s' = { s₀ with heap := h, toks := tk } ∧ Fr h₀ L h m'
theorem loop14 {w : World} {p : Program} {loose : List Str} {mean : ExcName → Option Value} {mg mb : Str → Option Value} {h₀ : Heap} {L fa : Addr} {cd : Value} {m : Str → Option Value} {s : Shared} {x xv ol D kl el : Addr} {n : Int} {b : Bool} {ki kj : Str} {tp ts to : Tok} {all : List (Addr × Obj)} {oc : Obj} {ov : Option Value} (B : Below callerA h₀ [] h₀) (X : (fragK.heap_1 w.params).In h₀) (T : Top p loose mean mg mb h₀) (F : Fr h₀ L s.heap m) (M : LawM m x xv ol D kl el n b ki kj tp ts to) (N : News h₀ L s.heap ((L + 1, oc) :: all)) (hoc : oc.data = .cell ov) (hcell : AllNe (L + 1) all) (hbody : ∀ (m : Str → Option Value) (s : Shared) (all' : List (Addr × Obj)) (oc : Obj) (ov : Option Value) (ql q9 : Nat) (qs : List Value) (ix dm : Addr) (y1 y2 y3 : Tok) (n9 : Nat), LawM m x xv ol D kl el n b ki kj tp ts to → m (Str.ofString "indexes") = some (.ref ql) → Fr h₀ L s.heap m → News h₀ L s.heap ((L + 1, oc) :: all') → oc.data = .cell ov → AllNe (L + 1) all' → (∀ q ∈ [(ql, listOf qs.toArray q9), (ix, instObj 84 dm), (dm, dictOf [ent w.params (Str.ofString "kind") y1 (.str (Str.ofString "missing") y2), ent w.params (Str.ofString "attrs") y3 .none] n9)], q ∈ all') → (∀ q ∈ all, q ∈ all') → (qs = [] ∨ qs = [.ref ix]) → wpAny (model PySem.Challenge.rw_pq1344_01.row.prog w) (callerA.deeper (envOfC (Str.ofString "law") lawScope L fa cd)) (execs lawFor (envOfC (Str.ofString "law") lawScope L fa cd)) (Turned h₀ L m s all') (fun _ _ => False) s) :
    let e := (envOfC (Str.ofString "law") lawScope L fa cd); let A := callerA.deeper e; wpAny (model PySem.Challenge.rw_pq1344_01.row.prog w) A (exec (lawAt 14) e) (Looped h₀ L s) (fun _ _ => False) s := by
  refine wo ?_
  simp (disch :=
  k_dflt (
  refine wk ?_
  have eS : lawScope = ⟨_, _, _, _, _⟩ := rfl
  dsimp only at eS
  rw [eS]
  clear eS
  intro e9 A9
  show wpAny _ _ (exec (Stmt.For _ _ _ _ _) _) _ _ _
  (try k_fold)
  refine' For_invVF F ?k1 ?k2 ?_
  case k1 => exact rfl
  case k2 => exact rfl
  repeat' ((fail_if_success (with_reducible show wpAny _ _ (pyIter (Value.ref _)) _ _ _)); k_extra "S0"; k_extra "S1")
  rename_i q0 zh1 zl1 q1 zh3 zl2 lo zh4 zF zN zl3
  have hA1 := A'.1.2.1
  have hA2 := A'.2.1.2.1
  have hcl : AllNe (L + 1) ((lo, listOf [Value.ref q0, .ref q1].toArray 0) :: (q1, listOf [Value.ref x9Z].toArray 0) :: (x9Z, instObj 84 d9Z) :: (d9Z, dictOf [ent w.params (Str.ofString "kind") q91Z (.str (Str.ofString "missing") q92Z), ent w.params (Str.ofString "attrs") q93Z .none] n98Z) :: (q0, listOf ([] : List Value).toArray 0) :: all) := ⟨Nat.ne_of_gt zl3.2.2.2.2.1, Nat.ne_of_gt zl2.2.2.2.1, Ne.symm hA1, Ne.symm hA2, Nat.ne_of_gt zl1.1, hcell⟩
  refine' loop_list ((L + 1, oc) :: (lo, listOf [Value.ref q0, .ref q1].toArray 0) :: (q1, listOf [Value.ref x9Z].toArray 0) :: (x9Z, instObj 84 d9Z) :: (d9Z, dictOf [ent w.params (Str.ofString "kind") q91Z (.str (Str.ofString "missing") q92Z), ent w.params (Str.ofString "attrs") q93Z .none] n98Z) :: (q0, listOf ([] : List Value).toArray 0) :: all) (fun k m nx => LawM m x xv ol D kl el n b ki kj tp ts to ∧ ∃ oc ov, oc.data = .cell ov ∧ nx = (L + 1, oc) :: (lo, listOf [Value.ref q0, .ref q1].toArray 0) :: (q1, listOf [Value.ref x9Z].toArray 0) :: (x9Z, instObj 84 d9Z) :: (d9Z, dictOf [ent w.params (Str.ofString "kind") q91Z (.str (Str.ofString "missing") q92Z), ent w.params (Str.ofString "attrs") q93Z .none] n98Z) :: (q0, listOf ([] : List Value).toArray 0) :: all) ?hh ?hJ ?F ?N ?s ?j ?turn ?done
  case hh => rfl
  case hJ => rintro k m nx ⟨_, oc, ov, _, rfl⟩; exact .tail _ (.head _)
  case F => exact zF
  case N => exact zN
  case s => k_extra "SUB"
  case j => exact ⟨M, oc, ov, hoc, rfl⟩
  case turn =>
    intro k v m₁ nx h tk own hv ho hJ F₁ N₁
    obtain ⟨M₁, oc, ov, hoc, rfl⟩ := hJ
    have hco : AllNe (L + 1) ((lo, listOf [Value.ref q0, .ref q1].toArray 0) :: (q1, listOf [Value.ref x9Z].toArray 0) :: (x9Z, instObj 84 d9Z) :: (d9Z, dictOf [ent w.params (Str.ofString "kind") q91Z (.str (Str.ofString "missing") q92Z), ent w.params (Str.ofString "attrs") q93Z .none] n98Z) :: (q0, listOf ([] : List Value).toArray 0) :: all ++ own) := AllNe.of fun q hq => (List.mem_append.mp hq).elim (fun h => hcl.all q h) fun h => ho q h (L + 1) (.head _)
    have hall : ∀ q ∈ all, q ∈ (lo, listOf [Value.ref q0, .ref q1].toArray 0) :: (q1, listOf [Value.ref x9Z].toArray 0) :: (x9Z, instObj 84 d9Z) :: (d9Z, dictOf [ent w.params (Str.ofString "kind") q91Z (.str (Str.ofString "missing") q92Z), ent w.params (Str.ofString "attrs") q93Z .none] n98Z) :: (q0, listOf ([] : List Value).toArray 0) :: all ++ own := fun q hq => List.mem_append_left _ (.tail _ (.tail _ (.tail _ (.tail _ (.tail _ hq)))))
    have hv' : v = .ref q0 ∨ v = .ref q1 := by
      match k, hv with
      | 0, hv => exact .inl (Option.some.inj hv).symm
      | 1, hv => exact .inr (Option.some.inj hv).symm
    have M₂ : LawM (fun y => if y = Str.ofString "indexes" then some v else m₁ y) x xv ol D kl el n b ki kj tp ts to := ⟨M₁.v, M₁.value, M₁.places, M₁.empty, M₁.others, M₁.sort, M₁.other, M₁.entries, M₁.held, M₁.kinds⟩
    rcases hv' with rfl | rfl
    · refine wpAny_mono (hbody _ _ ((lo, listOf [Value.ref q0, .ref q1].toArray 0) :: (q1, listOf [Value.ref x9Z].toArray 0) :: (x9Z, instObj 84 d9Z) :: (d9Z, dictOf [ent w.params (Str.ofString "kind") q91Z (.str (Str.ofString "missing") q92Z), ent w.params (Str.ofString "attrs") q93Z .none] n98Z) :: (q0, listOf ([] : List Value).toArray 0) :: all ++ own) oc ov q0 0 [] x9Z d9Z q91Z q92Z q93Z n98Z M₂ rfl F₁ N₁ hoc hco (by k_extra "QM") hall (.inl rfl)) (fun fl s' h9 => ?_) (fun _ _ e => e)
      obtain ⟨rfl, h2, tk2, m2, oc2, ov2, rfl, F2, hd2, N2, K2⟩ := h9
      exact loopP_next (nx := (L + 1, oc2) :: (lo, listOf [Value.ref q0, .ref q1].toArray 0) :: (q1, listOf [Value.ref x9Z].toArray 0) :: (x9Z, instObj 84 d9Z) :: (d9Z, dictOf [ent w.params (Str.ofString "kind") q91Z (.str (Str.ofString "missing") q92Z), ent w.params (Str.ofString "attrs") q93Z .none] n98Z) :: (q0, listOf ([] : List Value).toArray 0) :: all) (.inl rfl) F2 N2 ⟨M₂.kept K2, oc2, ov2, hd2, rfl⟩ ho (fun p hp => List.mem_append_left own hp) (fun p hp => List.mem_append_right ((L + 1, oc2) :: (lo, listOf [Value.ref q0, .ref q1].toArray 0) :: (q1, listOf [Value.ref x9Z].toArray 0) :: (x9Z, instObj 84 d9Z) :: (d9Z, dictOf [ent w.params (Str.ofString "kind") q91Z (.str (Str.ofString "missing") q92Z), ent w.params (Str.ofString "attrs") q93Z .none] n98Z) :: (q0, listOf ([] : List Value).toArray 0) :: all) hp)
    · refine wpAny_mono (hbody _ _ ((lo, listOf [Value.ref q0, .ref q1].toArray 0) :: (q1, listOf [Value.ref x9Z].toArray 0) :: (x9Z, instObj 84 d9Z) :: (d9Z, dictOf [ent w.params (Str.ofString "kind") q91Z (.str (Str.ofString "missing") q92Z), ent w.params (Str.ofString "attrs") q93Z .none] n98Z) :: (q0, listOf ([] : List Value).toArray 0) :: all ++ own) oc ov q1 0 [.ref x9Z] x9Z d9Z q91Z q92Z q93Z n98Z M₂ rfl F₁ N₁ hoc hco (by k_extra "QM") hall (.inr rfl)) (fun fl s' h9 => ?_) (fun _ _ e => e)
      obtain ⟨rfl, h2, tk2, m2, oc2, ov2, rfl, F2, hd2, N2, K2⟩ := h9
      exact loopP_next (nx := (L + 1, oc2) :: (lo, listOf [Value.ref q0, .ref q1].toArray 0) :: (q1, listOf [Value.ref x9Z].toArray 0) :: (x9Z, instObj 84 d9Z) :: (d9Z, dictOf [ent w.params (Str.ofString "kind") q91Z (.str (Str.ofString "missing") q92Z), ent w.params (Str.ofString "attrs") q93Z .none] n98Z) :: (q0, listOf ([] : List Value).toArray 0) :: all) (.inl rfl) F2 N2 ⟨M₂.kept K2, oc2, ov2, hd2, rfl⟩ ho (fun p hp => List.mem_append_left own hp) (fun p hp => List.mem_append_right ((L + 1, oc2) :: (lo, listOf [Value.ref q0, .ref q1].toArray 0) :: (q1, listOf [Value.ref x9Z].toArray 0) :: (x9Z, instObj 84 d9Z) :: (d9Z, dictOf [ent w.params (Str.ofString "kind") q91Z (.str (Str.ofString "missing") q92Z), ent w.params (Str.ofString "attrs") q93Z .none] n98Z) :: (q0, listOf ([] : List Value).toArray 0) :: all) hp)
  case done =>
    intro m₁ nx h tk hJ F₁ N₁
    repeat' ((fail_if_success (with_reducible show Looped _ _ _ _ _)); k_extra "S0"; k_extra "S1")
    exact ⟨rfl, _, _, _, rfl, F₁⟩
  )) only [↓wt]
end
section
open PySem PySem.W PyProof.Rows PySem.Calls
set_option Elab.async false
set_option maxRecDepth 100000 
set_option maxHeartbeats 8000000 
theorem kwL6_0 : True := by
  k_with_none
  k_with "MEM" => first | (with_reducible exact List.mem_cons_self) | ((with_reducible refine List.mem_cons_of_mem _ ?_); k_extra "MEM")
  k_with "ENTER" => (refine' code_defP ?zqk1 ?zqk2 ?zqk3 ?zqk4 ?zqk5 ?zqkA ?zqkF ?zqkK ?zqk6 ?zqk7 ?zqk8 ?zqk9 ?zqkB ?_ ?zqc2 ?zqc3 ?zqc4 ?zqc5; (case zqkA => exact rfl); (case zqkF => exact rfl); (case zqkK => exact rfl); (case zqk1 => k_asm); (case zqk2 => k_asm); (case zqk3 => k_asm); (case zqk4 => k_asm); (case zqk5 => k_asm); (case zqk6 => k_is); (case zqk7 => k_is); (case zqk8 => k_room); (case zqk9 => first | exact BindsTo.of_eq rfl | exact binds_K (by k_in) rfl (by k_is) rfl rfl rfl); (case zqc5 => decide); (case zqkB => exact locs rfl); (case zqc2 => exact rfl); (case zqc3 => exact rfl); (case zqc4 => exact rfl); k_whole; intro g' L' h' Q' FG' F' N' B' X' T' hQ' e9 A9; (try dsimp only); (try k_lift B'); (try k_fold))
  k_with "S0" => ((fail_if_success (with_reducible show Post _ _ _ _ _ _ _ _)); (fail_if_success (with_reducible show LoopP _ _ _ _ _ _ _ _)); (fail_if_success (with_reducible show CmpP _ _ _ _ _ _ _ _ _ _ _ _ _ _ _)))
  k_with "S1" => first | (k_unfold; (try dsimp only)) | (k_end; wrow_close) | walk1 | (with_reducible refine hand (by assumption) ?_; try dsimp only) | (dsimp only; walk1) | (leave1; try dsimp only)
  k_with "ROOM" => first | (refine' room0 ?zqh ?zqe; (case zqh => assumption); (case zqe => exact rfl)) | (refine' room1 ?zqh ?zqe; (case zqh => assumption); (case zqe => exact rfl)) | (refine' room2 ?zqh ?zqe; (case zqh => assumption); (case zqe => exact rfl)) | (refine' room3 ?zqh ?zqe; (case zqh => assumption); (case zqe => exact rfl)) | (refine' roomz ?zqh; (case zqh => assumption)) | ktr_room
  k_with "UNITS" => first | (refine' room0 ?zqh ?zqe; (case zqh => assumption); (case zqe => exact rfl)) | (refine' room1 ?zqh ?zqe; (case zqh => assumption); (case zqe => exact rfl)) | (refine' room2 ?zqh ?zqe; (case zqh => assumption); (case zqe => exact rfl)) | (refine' room3 ?zqh ?zqe; (case zqh => assumption); (case zqe => exact rfl)) | exact lt_num rfl | ktr_units
  k_with "AR" => first | assumption | exact Nat.le_max_right _ _ | exact Nat.le_max_left _ _ | exact Nat.max_lt.mpr ⟨by assumption, by assumption⟩ | (refine' le_up ?zqh ?zqe; (case zqh => assumption); (case zqe => exact rfl)) | omega
  k_with "SUT" => first | exact sub_self | (refine sub_skip ?_; k_extra "SUT")
  k_with "SUK" => first | exact sub_nil | k_extra "SUT" | k_extra "SUB"
  k_with "KEEP" => first | (refine keep_hd (List.Mem.head _) ?_; k_extra "KEEP") | exact keep_of (by k_extra "SUK") | ((with_reducible refine' keep_cons ?zqkm ?_); (case zqkm => k_mem); k_extra "KEEP")
  k_with "APQ" => (rename Apart _ _ => h9; first | exact Apart.at h9 (by k_extra "MEM") (by k_extra "MEM") | exact ap_at h9 (by k_extra "MEM") (by k_extra "MEM") | (clear h9; k_extra "APQ"))
  k_with "ANQ" => (rename AllNe _ _ => h9; first | exact AllNe.at h9 (by k_extra "MEM") | exact an_at h9 (by k_extra "MEM") | (clear h9; k_extra "ANQ"))
  k_with "ALQ" => (rename AllLt _ _ => h9; first | exact lt_ne h9 (by k_extra "MEM") | exact lt_en h9 (by k_extra "MEM") | exact lt_ne2 h9 (by assumption) (by k_extra "MEM") | exact lt_en2 h9 (by assumption) (by k_extra "MEM") | (clear h9; k_extra "ALQ"))
  k_with "NEQ" => first | assumption | exact Ne.symm (by assumption) | exact Nat.ne_of_lt (by assumption) | exact Nat.ne_of_gt (by assumption) | k_extra "ALQ" | k_extra "ANQ" | k_extra "APQ" | omega
  k_with "APS" => (rename Apart _ _ => h9; first | exact Apart.subA h9 rfl (by k_extra "SUK") | (clear h9; k_extra "APS"))
  k_with "NE1" => (refine neN ?_; (try dsimp only); k_extra "NEQ")
  k_with "ALL" => first | exact all_nil | (rename AllLt _ _ => h9; exact lt_sub h9 (by k_extra "SUT")) | (refine' all_cons ?zqa ?zqb; (case zqa => k_ne); (case zqb => k_all))
  k_with "ALN" => first | exact ne_nil | (refine ne_cons ?_ ?_; (focus ((try dsimp only); k_extra "NEQ")); k_extra "ALN")
  k_with "APM" => first | exact ap_nil | k_extra "APS" | (refine ap_cons ?_ ?_; (focus k_extra "ALN"); k_extra "APM")
  k_with "CA" => ((case zqkB => k_asm); (case zqkF => k_asm); (case zqkX => k_asm); (case zqkN => k_asm))
  k_with "CB" => ((case zqkT => k_asm); (case zqkK => first | exact rfl | assumption); (case zqkd => k_extra "ROOM"); (case zqku => k_extra "UNITS"))
  k_with "CE" => all_goals ((try ((with_reducible rename News _ _ _ _ => h9); simp only [List.nil_append, List.cons_append] at h9)); (try ((with_reducible rename Apart [] _ => h7); clear h7)); (try dsimp only [Option.getD_some, Option.getD_none]); (try k_sweep); (try k_fold))
  k_with "CZ" => all_goals ((try dsimp only [Option.getD_some, Option.getD_none]); (try k_sweep); (try k_fold))
  k_with "call builtin:len" => (k_here; (with_reducible show wpAny _ _ (call (Value.builtin "len") [Value.ref _]) _ _ _); k_dflt (refine' len_sym ?zqk1 ?zqk2 ?zqk3 ?_; (case zqk1 => k_asm); (case zqk2 => k_mem); (case zqk3 => k_extra "AR"); k_whole))
  k_with "getMethod ref" => (k_here; (with_reducible show wpAny _ _ (getMethod (Value.ref _) (PySem.Str.ofString "get") _) _ _ _); k_dflt (refine' get_method ?zqk1 ?zqk2 ?zqk3 ?_; (case zqk1 => k_asm); (case zqk2 => k_mem); (case zqk3 => with_reducible assumption); k_whole))
  k_with "call builtin:dict.get" => (k_here; (with_reducible show wpAny _ _ (call (Value.builtin "dict.get") [Value.ref _, Value.str _ _]) _ _ _); k_dflt (refine' get_call ?zqk0 ?zqk1 ?zqk2 ?zqk3 ?_; (case zqk1 => k_asm); (case zqk2 => k_mem); (case zqk3 => with_reducible assumption); (case zqk0 => with_reducible assumption); k_whole))
  k_with "LOCA" => first | exact LocArgs.nil | (refine' LocArgs.cons ?zqlk ?zqld ?zqlv ?zqlt; (case zqlk => kernel_rfl!); (case zqld => kernel_rfl); (case zqlv => first | rfl | assumption); (case zqlt => k_extra "LOCA"))
  k_with "eval Call" => (k_here; (with_reducible show wpAny _ _ (eval (Expr.Call (Expr.Name _ _) (Expr.Name _ _ :: _) [] _) _) _ _ _); first | ((with_reducible refine' callO_loc ?zqF ?zqX ?zqT ?zqe ?zqk ?zqa ?zqb ?zqc ?zql ?_); k_dflt ((case zqF => k_asm); (case zqX => k_asm); (case zqT => k_asm); (case zqa => exact rfl); (case zqb => kernel_rfl!); (case zqc => kernel_rfl); (case zqe => k_is); (case zqk => k_is); (case zql => k_extra "LOCA"); k_whole)) | ((with_reducible refine' callC_loc ?zqF ?zqX ?zqT ?zqe ?zqk ?zqa ?zqb ?zqc ?zql ?_); k_dflt ((case zqF => k_asm); (case zqX => k_asm); (case zqT => k_asm); (case zqa => exact rfl); (case zqb => kernel_rfl!); (case zqc => kernel_rfl); (case zqe => k_is); (case zqk => k_is); (case zql => k_extra "LOCA"); k_whole)))
  k_with "eval Attribute Name" => (k_here; (with_reducible refine' attrO_loc ?zqF ?zqv ?zqa ?zqb ?zqc ?_); k_dflt ((case zqF => k_asm); (case zqa => exact rfl); (case zqb => kernel_rfl!); (case zqc => kernel_rfl); (case zqv => first | rfl | assumption); k_whole))
  k_with "ite" => (k_here; first | (k_closed; first | ((with_reducible refine ite_pos ?zqk2 ?_); k_dflt (case zqk2 => decide)) | ((with_reducible refine ite_neg ?zqk2 ?_); k_dflt (case zqk2 => decide))) | (refine' ite_bf ?zqk1 ?_; (case zqk1 => first | assumption | exact decide_eq_false (by omega) | exact beq_eq_false_iff_ne.mpr (by omega))) | (refine' ite_bt ?zqk1 ?_; (case zqk1 => first | assumption | exact decide_eq_true (by omega) | exact beq_iff_eq.mpr (by omega))))
  k_with "call type:dict" => (k_here; (with_reducible show wpAny _ _ (call (Value.type "dict") [Value.ref _]) _ _ _); k_dflt (refine' dict_copyK ?zqF ?zqN ?zqb ?zqm ?zqD ?zql ?zqz ?_; (case zqF => k_asm); (case zqN => k_asm); (case zqb => exact Top.nolimit (by k_asm)); (case zqm => k_mem); (case zqD => with_reducible assumption); (case zql => with_reducible assumption); (case zqz => omega); k_whole); intro d' h' o' F' N' l1 lo' hd'; (try k_lt l1))
  k_with "eval Name" => (k_here; first | ((with_reducible refine' nameO_L ?zqF ?zqv ?_ ?zqa ?zqb ?zqc); k_dflt ((case zqF => k_asm); (case zqa => exact rfl); (case zqb => kernel_rfl!); (case zqc => kernel_rfl); (case zqv => first | rfl | assumption); k_whole)) | ((with_reducible refine' nameO_K ?zqF ?zqX ?zqT ?zqe ?_ ?zqa ?zqb ?zqc); k_dflt ((case zqF => k_asm); (case zqX => k_asm); (case zqT => k_asm); (case zqa => exact rfl); (case zqb => kernel_rfl!); (case zqc => kernel_rfl); (case zqe => k_is); k_whole)) | ((with_reducible refine' nameC_L ?zqF ?zqv ?_ ?zqa ?zqb ?zqc); k_dflt ((case zqF => k_asm); (case zqa => exact rfl); (case zqb => kernel_rfl!); (case zqc => kernel_rfl); (case zqv => first | rfl | assumption); k_whole)) | ((with_reducible refine' nameC_K ?zqF ?zqX ?zqT ?zqe ?_ ?zqa ?zqb ?zqc); k_dflt ((case zqF => k_asm); (case zqX => k_asm); (case zqT => k_asm); (case zqa => exact rfl); (case zqb => kernel_rfl!); (case zqc => kernel_rfl); (case zqe => k_is); k_whole)))
  trivial
theorem kwL6_1 : True := by
  k_with "SUB" => first | exact sub_nil | ((with_reducible refine' sub_cons ?zqsm ?_); (case zqsm => k_mem); k_extra "SUB") | (refine sub_app ?_ ?_; (focus k_extra "SUB"); k_extra "SUB") | k_extra "SUT" | (intro p9 hp9; repeat' (first | exact hp9 | refine List.mem_cons_of_mem _ ?_ | exact List.mem_append.mpr (Or.inl hp9) | refine List.mem_append.mpr (Or.inr ?_)))
  k_with "OWN" => (intro p9 hp9; repeat' (first | exact hp9 | refine List.mem_cons_of_mem _ ?_ | exact List.mem_append.mpr (Or.inl hp9) | refine List.mem_append.mpr (Or.inr ?_)))
  k_with "ALL" => ((rename AllNe _ _ => hAn9); first | (refine AllNe.all ?_; exact hAn9) | (refine fun p hp => AllNe.all hAn9 p ?_; repeat' (first | exact hp | exact List.mem_append.mpr (Or.inl hp) | exact List.mem_append.mpr (Or.inr hp) | refine List.mem_cons_of_mem _ ?_)) | (clear hAn9; k_all))
  k_with "eval Name" => (k_here; (with_reducible show wpAny _ _ (eval (Expr.Name _ _) (envOfC _ _ _ _ _)) _ _ _); k_dflt (refine' ldLoc ?zqF ?zqv ?_ ?zqa ?zqb ?zqc; (case zqa => rfl); (case zqb => rfl); (case zqc => decide); (case zqF => k_asm); (case zqv => assumption); k_whole))
  k_with "call ref" => (k_here; (with_reducible show wpAny _ _ (call (Value.ref 113) _) _ _ _); k_dflt (first | (refine' tellsN_callG (vector_new) ?zqkB ?zqkF ?zqkX ?zqkN ?zqkT ?zqkK ?zqkd ?zqku ?_; k_extra "CA"; k_extra "CB"; k_whole; intro x9Z d9Z q91Z q92Z q93Z q94Z q95Z hdx9Z h' tk' F' N' A'; k_extra "CE") | (refine' tellsN_callG (vector_new3) ?zqkB ?zqkF ?zqkX ?zqkN ?zqkT ?zqkK ?zqkd ?zqku ?_; k_extra "CA"; k_extra "CB"; k_whole; intro x9Z d9Z q91Z q92Z q93Z q94Z q95Z hdx9Z h' tk' F' N' A'; k_extra "CE")))
  k_with "call ref" => (k_here; (with_reducible show wpAny _ _ (call (Value.ref 786) _) _ _ _); k_dflt (refine' tellsB_call (cards_tells ?zqhI ?zqhlen) ?zqhb ?zqkB ?zqkF ?zqkX ?zqkN ?zqkT ?zqkK ?zqkd ?zqku ?_; k_extra "CA"; (case zqhI => assumption); (case zqhlen => omega); (case zqhb => assumption); k_extra "CB"; k_whole; intro r' h' tk' new' F' N' A'; (rintro ⟨c9, n9, us9, ms9, e1, e2, hI9, hul9⟩; subst e1; subst e2); k_extra "CE"))
  k_with "call ref" => (k_here; (with_reducible show wpAny _ _ (call (Value.ref 800) _) _ _ _); k_dflt (refine' tells_callGU (row_tells _ ?zqhI ?zqhlen ?zqhk0 ?zqhk1) ?zqkB ?zqkF ?zqkX ?zqkN ?zqkS ?zqkU ?zqkT ?zqkK ?zqkd ?zqku ?_; k_extra "CA"; (case zqhI => with_reducible assumption); (case zqkS => k_extra "SUK"); (case zqkU => k_updF); (case zqhlen => k_extra "AR"); (case zqhk0 => k_extra "AR"); (case zqhk1 => k_extra "AR"); k_extra "CB"; k_whole; intro T9Z el9Z i9Z ne9Z n09Z n9Z es9Z us9Z ns9Z t9Z hulZ hI9Z hi9Z hel9Z hes9Z hTe9Z h' tk' F' N' A'; (try dsimp only at N'); k_extra "CE"))
  trivial
/-- what the first four statements hand on -/
def AfterA (w : World) (h₀ : Heap) (L : Addr) (oc : Obj) (s₀ : Shared) (fl : Flow) (s' : Shared) : Prop :=
  ∀ P : Flow → Shared → Prop, (∀ h tk m c da n o el ne x d li n1 n2 t1 t2 t3 t4 t5 kt i sh ts, ∀ us es : List Value, ∀ ms : List Int, Fr h₀ L h m → m (Str.ofString "cards") = some (.ref c) → m (Str.ofString "dress") = some (.ref da) → m (Str.ofString "entries") = some (.ref el) → m (Str.ofString "v") = some (.ref x) → m (Str.ofString "sort_of") = some (.str (kS i) ts) →
    News h₀ L h [(da, o), (c, listOf us.toArray n), (el, listOf es.toArray ne), (x, instObj 113 d), (d, dictOf (vd w.params t1 t2 t3 t4 t5 (.str (kS i) kt) (.ref li) .none sh (.bool false)) n1), (li, listOf es.toArray n2), (L + 1, oc)] → o.IsDictOf (strKind PySem.Challenge.rw_pq1344_01.row.prog w) ([] : List (Str × Value)) → (da == sysModules) = false → IntsAre us ms → us.length ≤ 600 → i < 3 → es.length ≤ 10 → (∀ u ∈ es, Okv i u) →
    AllNe da [(c, listOf us.toArray n), (el, listOf es.toArray ne), (x, instObj 113 d), (d, dictOf (vd w.params t1 t2 t3 t4 t5 (.str (kS i) kt) (.ref li) .none sh (.bool false)) n1), (li, listOf es.toArray n2), (L + 1, oc)] → AllNe c [(el, listOf es.toArray ne), (x, instObj 113 d), (d, dictOf (vd w.params t1 t2 t3 t4 t5 (.str (kS i) kt) (.ref li) .none sh (.bool false)) n1), (li, listOf es.toArray n2), (L + 1, oc)] → AllNe d [(el, listOf es.toArray ne), (x, instObj 113 d), (li, listOf es.toArray n2), (L + 1, oc)] → AllNe (L + 1) [(da, o), (c, listOf us.toArray n), (el, listOf es.toArray ne), (x, instObj 113 d), (d, instObj 0 0), (li, listOf es.toArray n2)] → P .next { s₀ with heap := h, toks := tk }) → P fl s'
theorem lawA {w : World} {p : Program} {loose : List Str} {mean : ExcName → Option Value} {mg mb : Str → Option Value} {h₀ : Heap} {L fa : Addr} {cd : Value} {m : Str → Option Value} {s : Shared} {oc : Obj} {sl : Addr} {ss : List Value} {ns : List Int} (B : Below callerA h₀ [] h₀) (X : (fragK.heap_1 w.params).In h₀) (T : Top p loose mean mg mb h₀) (F : Fr h₀ L s.heap m) (hm_script : m (Str.ofString "script") = some (.ref sl)) (N : News h₀ L s.heap [(L + 1, oc)]) (hL : h₀.IsList sl ss.toArray) (hI : IntsAre ss ns) (hlen : ns.length ≤ 63) :
    let e := (envOfC (Str.ofString "law") lawScope L fa cd); let A := callerA.deeper e; wpAny (model PySem.Challenge.rw_pq1344_01.row.prog w) A (execs (lawBody.take 4) e) (AfterA w h₀ L oc s) (fun _ _ => False) s := by
  refine wo ?_
  simp (disch :=
  k_dflt (
  refine wk ?_
  have eS : lawScope = ⟨_, _, _, _, _⟩ := rfl
  dsimp only at eS
  rw [eS]
  clear eS
  intro e9 A9
  show wpAny _ _ (execs (_ :: _ :: _ :: _ :: []) _) _ _ _
  (try k_fold)
  repeat' ((fail_if_success (with_reducible show AfterA _ _ _ _ _ _ _)); k_extra "S0"; k_extra "S1")
  (try dsimp only)
  (rename Fr _ _ _ _ => F7)
  (rename News _ _ _ _ => N7)
  exact fun P hP => hP _ _ _ _ _ _ _ _ _ _ _ _ _ _ _ _ _ _ _ _ _ _ _ _ _ _ F7 rfl rfl rfl rfl rfl (news_subK N7 (by k_extra "SUB")) (by assumption) (by assumption) (by assumption) (by omega) (by assumption) (by omega) (by assumption) (AllNe.of (by k_extra "ALN")) (AllNe.of (by k_extra "ALN")) (AllNe.of (by k_extra "ALN")) (AllNe.of (by k_extra "ALN"))
  )) only [↓wt]
end
section
open PySem PySem.W PyProof.Rows PySem.Calls
set_option Elab.async false
set_option maxRecDepth 100000 
set_option maxHeartbeats 8000000 
theorem kwL7_0 : True := by
  k_with_none
  k_with "MEM" => first | (with_reducible exact List.mem_cons_self) | ((with_reducible refine List.mem_cons_of_mem _ ?_); k_extra "MEM")
  k_with "ENTER" => (refine' code_defP ?zqk1 ?zqk2 ?zqk3 ?zqk4 ?zqk5 ?zqkA ?zqkF ?zqkK ?zqk6 ?zqk7 ?zqk8 ?zqk9 ?zqkB ?_ ?zqc2 ?zqc3 ?zqc4 ?zqc5; (case zqkA => exact rfl); (case zqkF => exact rfl); (case zqkK => exact rfl); (case zqk1 => k_asm); (case zqk2 => k_asm); (case zqk3 => k_asm); (case zqk4 => k_asm); (case zqk5 => k_asm); (case zqk6 => k_is); (case zqk7 => k_is); (case zqk8 => k_room); (case zqk9 => first | exact BindsTo.of_eq rfl | exact binds_K (by k_in) rfl (by k_is) rfl rfl rfl); (case zqc5 => decide); (case zqkB => exact locs rfl); (case zqc2 => exact rfl); (case zqc3 => exact rfl); (case zqc4 => exact rfl); k_whole; intro g' L' h' Q' FG' F' N' B' X' T' hQ' e9 A9; (try dsimp only); (try k_lift B'); (try k_fold))
  k_with "S0" => ((fail_if_success (with_reducible show Post _ _ _ _ _ _ _ _)); (fail_if_success (with_reducible show LoopP _ _ _ _ _ _ _ _)); (fail_if_success (with_reducible show CmpP _ _ _ _ _ _ _ _ _ _ _ _ _ _ _)))
  k_with "S1" => first | (k_unfold; (try dsimp only)) | (k_end; wrow_close) | walk1 | (with_reducible refine hand (by assumption) ?_; try dsimp only) | (dsimp only; walk1) | (leave1; try dsimp only)
  k_with "ROOM" => first | (refine' room0 ?zqh ?zqe; (case zqh => assumption); (case zqe => exact rfl)) | (refine' room1 ?zqh ?zqe; (case zqh => assumption); (case zqe => exact rfl)) | (refine' room2 ?zqh ?zqe; (case zqh => assumption); (case zqe => exact rfl)) | (refine' room3 ?zqh ?zqe; (case zqh => assumption); (case zqe => exact rfl)) | (refine' roomz ?zqh; (case zqh => assumption)) | ktr_room
  k_with "UNITS" => first | (refine' room0 ?zqh ?zqe; (case zqh => assumption); (case zqe => exact rfl)) | (refine' room1 ?zqh ?zqe; (case zqh => assumption); (case zqe => exact rfl)) | (refine' room2 ?zqh ?zqe; (case zqh => assumption); (case zqe => exact rfl)) | (refine' room3 ?zqh ?zqe; (case zqh => assumption); (case zqe => exact rfl)) | exact lt_num rfl | ktr_units
  k_with "AR" => first | assumption | exact Nat.le_max_right _ _ | exact Nat.le_max_left _ _ | exact Nat.max_lt.mpr ⟨by assumption, by assumption⟩ | (refine' le_up ?zqh ?zqe; (case zqh => assumption); (case zqe => exact rfl)) | omega
  k_with "SUT" => first | exact sub_self | (refine sub_skip ?_; k_extra "SUT")
  k_with "SUK" => first | exact sub_nil | k_extra "SUT" | k_extra "SUB"
  k_with "KEEP" => first | (refine keep_hd (List.Mem.head _) ?_; k_extra "KEEP") | exact keep_of (by k_extra "SUK") | ((with_reducible refine' keep_cons ?zqkm ?_); (case zqkm => k_mem); k_extra "KEEP")
  k_with "APQ" => (rename Apart _ _ => h9; first | exact Apart.at h9 (by k_extra "MEM") (by k_extra "MEM") | exact ap_at h9 (by k_extra "MEM") (by k_extra "MEM") | (clear h9; k_extra "APQ"))
  k_with "ANQ" => (rename AllNe _ _ => h9; first | exact AllNe.at h9 (by k_extra "MEM") | exact an_at h9 (by k_extra "MEM") | (clear h9; k_extra "ANQ"))
  k_with "ALQ" => (rename AllLt _ _ => h9; first | exact lt_ne h9 (by k_extra "MEM") | exact lt_en h9 (by k_extra "MEM") | exact lt_ne2 h9 (by assumption) (by k_extra "MEM") | exact lt_en2 h9 (by assumption) (by k_extra "MEM") | (clear h9; k_extra "ALQ"))
  k_with "NEQ" => first | assumption | exact Ne.symm (by assumption) | exact Nat.ne_of_lt (by assumption) | exact Nat.ne_of_gt (by assumption) | k_extra "ALQ" | k_extra "ANQ" | k_extra "APQ" | omega
  k_with "APS" => (rename Apart _ _ => h9; first | exact Apart.subA h9 rfl (by k_extra "SUK") | (clear h9; k_extra "APS"))
  k_with "NE1" => (refine neN ?_; (try dsimp only); k_extra "NEQ")
  k_with "ALL" => first | exact all_nil | (rename AllLt _ _ => h9; exact lt_sub h9 (by k_extra "SUT")) | (refine' all_cons ?zqa ?zqb; (case zqa => k_ne); (case zqb => k_all))
  k_with "ALN" => first | exact ne_nil | (refine ne_cons ?_ ?_; (focus ((try dsimp only); k_extra "NEQ")); k_extra "ALN")
  k_with "APM" => first | exact ap_nil | k_extra "APS" | (refine ap_cons ?_ ?_; (focus k_extra "ALN"); k_extra "APM")
  k_with "CA" => ((case zqkB => k_asm); (case zqkF => k_asm); (case zqkX => k_asm); (case zqkN => k_asm))
  k_with "CB" => ((case zqkT => k_asm); (case zqkK => first | exact rfl | assumption); (case zqkd => k_extra "ROOM"); (case zqku => k_extra "UNITS"))
  k_with "CE" => all_goals ((try ((with_reducible rename News _ _ _ _ => h9); simp only [List.nil_append, List.cons_append] at h9)); (try ((with_reducible rename Apart [] _ => h7); clear h7)); (try dsimp only [Option.getD_some, Option.getD_none]); (try k_sweep); (try k_fold))
  k_with "CZ" => all_goals ((try dsimp only [Option.getD_some, Option.getD_none]); (try k_sweep); (try k_fold))
  k_with "call builtin:len" => (k_here; (with_reducible show wpAny _ _ (call (Value.builtin "len") [Value.ref _]) _ _ _); k_dflt (refine' len_sym ?zqk1 ?zqk2 ?zqk3 ?_; (case zqk1 => k_asm); (case zqk2 => k_mem); (case zqk3 => k_extra "AR"); k_whole))
  k_with "getMethod ref" => (k_here; (with_reducible show wpAny _ _ (getMethod (Value.ref _) (PySem.Str.ofString "get") _) _ _ _); k_dflt (refine' get_method ?zqk1 ?zqk2 ?zqk3 ?_; (case zqk1 => k_asm); (case zqk2 => k_mem); (case zqk3 => with_reducible assumption); k_whole))
  k_with "call builtin:dict.get" => (k_here; (with_reducible show wpAny _ _ (call (Value.builtin "dict.get") [Value.ref _, Value.str _ _]) _ _ _); k_dflt (refine' get_call ?zqk0 ?zqk1 ?zqk2 ?zqk3 ?_; (case zqk1 => k_asm); (case zqk2 => k_mem); (case zqk3 => with_reducible assumption); (case zqk0 => with_reducible assumption); k_whole))
  k_with "LOCA" => first | exact LocArgs.nil | (refine' LocArgs.cons ?zqlk ?zqld ?zqlv ?zqlt; (case zqlk => kernel_rfl!); (case zqld => kernel_rfl); (case zqlv => first | rfl | assumption); (case zqlt => k_extra "LOCA"))
  k_with "eval Call" => (k_here; (with_reducible show wpAny _ _ (eval (Expr.Call (Expr.Name _ _) (Expr.Name _ _ :: _) [] _) _) _ _ _); first | ((with_reducible refine' callO_loc ?zqF ?zqX ?zqT ?zqe ?zqk ?zqa ?zqb ?zqc ?zql ?_); k_dflt ((case zqF => k_asm); (case zqX => k_asm); (case zqT => k_asm); (case zqa => exact rfl); (case zqb => kernel_rfl!); (case zqc => kernel_rfl); (case zqe => k_is); (case zqk => k_is); (case zql => k_extra "LOCA"); k_whole)) | ((with_reducible refine' callC_loc ?zqF ?zqX ?zqT ?zqe ?zqk ?zqa ?zqb ?zqc ?zql ?_); k_dflt ((case zqF => k_asm); (case zqX => k_asm); (case zqT => k_asm); (case zqa => exact rfl); (case zqb => kernel_rfl!); (case zqc => kernel_rfl); (case zqe => k_is); (case zqk => k_is); (case zql => k_extra "LOCA"); k_whole)))
  k_with "eval Attribute Name" => (k_here; (with_reducible refine' attrO_loc ?zqF ?zqv ?zqa ?zqb ?zqc ?_); k_dflt ((case zqF => k_asm); (case zqa => exact rfl); (case zqb => kernel_rfl!); (case zqc => kernel_rfl); (case zqv => first | rfl | assumption); k_whole))
  k_with "ite" => (k_here; first | (k_closed; first | ((with_reducible refine ite_pos ?zqk2 ?_); k_dflt (case zqk2 => decide)) | ((with_reducible refine ite_neg ?zqk2 ?_); k_dflt (case zqk2 => decide))) | (refine' ite_bf ?zqk1 ?_; (case zqk1 => first | assumption | exact decide_eq_false (by omega) | exact beq_eq_false_iff_ne.mpr (by omega))) | (refine' ite_bt ?zqk1 ?_; (case zqk1 => first | assumption | exact decide_eq_true (by omega) | exact beq_iff_eq.mpr (by omega))))
  k_with "call type:dict" => (k_here; (with_reducible show wpAny _ _ (call (Value.type "dict") [Value.ref _]) _ _ _); k_dflt (refine' dict_copyK ?zqF ?zqN ?zqb ?zqm ?zqD ?zql ?zqz ?_; (case zqF => k_asm); (case zqN => k_asm); (case zqb => exact Top.nolimit (by k_asm)); (case zqm => k_mem); (case zqD => with_reducible assumption); (case zql => with_reducible assumption); (case zqz => omega); k_whole); intro d' h' o' F' N' l1 lo' hd'; (try k_lt l1))
  k_with "eval Name" => (k_here; first | ((with_reducible refine' nameO_L ?zqF ?zqv ?_ ?zqa ?zqb ?zqc); k_dflt ((case zqF => k_asm); (case zqa => exact rfl); (case zqb => kernel_rfl!); (case zqc => kernel_rfl); (case zqv => first | rfl | assumption); k_whole)) | ((with_reducible refine' nameO_K ?zqF ?zqX ?zqT ?zqe ?_ ?zqa ?zqb ?zqc); k_dflt ((case zqF => k_asm); (case zqX => k_asm); (case zqT => k_asm); (case zqa => exact rfl); (case zqb => kernel_rfl!); (case zqc => kernel_rfl); (case zqe => k_is); k_whole)) | ((with_reducible refine' nameC_L ?zqF ?zqv ?_ ?zqa ?zqb ?zqc); k_dflt ((case zqF => k_asm); (case zqa => exact rfl); (case zqb => kernel_rfl!); (case zqc => kernel_rfl); (case zqv => first | rfl | assumption); k_whole)) | ((with_reducible refine' nameC_K ?zqF ?zqX ?zqT ?zqe ?_ ?zqa ?zqb ?zqc); k_dflt ((case zqF => k_asm); (case zqX => k_asm); (case zqT => k_asm); (case zqa => exact rfl); (case zqb => kernel_rfl!); (case zqc => kernel_rfl); (case zqe => k_is); k_whole)))
  trivial
theorem kwL7_1 : True := by
  k_with "SUB" => first | exact sub_nil | ((with_reducible refine' sub_cons ?zqsm ?_); (case zqsm => k_mem); k_extra "SUB") | (refine sub_app ?_ ?_; (focus k_extra "SUB"); k_extra "SUB") | k_extra "SUT" | (intro p9 hp9; repeat' (first | exact hp9 | refine List.mem_cons_of_mem _ ?_ | exact List.mem_append.mpr (Or.inl hp9) | refine List.mem_append.mpr (Or.inr ?_)))
  k_with "OWN" => (intro p9 hp9; repeat' (first | exact hp9 | refine List.mem_cons_of_mem _ ?_ | exact List.mem_append.mpr (Or.inl hp9) | refine List.mem_append.mpr (Or.inr ?_)))
  k_with "ALL" => ((rename AllNe _ _ => hAn9); first | (refine AllNe.all ?_; exact hAn9) | (refine fun p hp => AllNe.all hAn9 p ?_; repeat' (first | exact hp | exact List.mem_append.mpr (Or.inl hp) | exact List.mem_append.mpr (Or.inr hp) | refine List.mem_cons_of_mem _ ?_)) | (clear hAn9; k_all))
  k_with "eval Name" => (k_here; (with_reducible show wpAny _ _ (eval (Expr.Name _ _) (envOfC _ _ _ _ _)) _ _ _); k_dflt (refine' ldLoc ?zqF ?zqv ?_ ?zqa ?zqb ?zqc; (case zqa => rfl); (case zqb => rfl); (case zqc => decide); (case zqF => k_asm); (case zqv => assumption); k_whole))
  k_with "call ref" => (k_here; (with_reducible show wpAny _ _ (call (Value.ref 810) _) _ _ _); k_dflt (refine' tells_callG (seen_tells (Hav.out ?zqhav)) ?zqkB ?zqkF ?zqkX ?zqkN ?zqkS ?zqkT ?zqkK ?zqkd ?zqku ?_; k_extra "CA"; (case zqhav => with_reducible assumption); (case zqkS => k_extra "SUK"); k_extra "CB"; k_whole; intro D9Z oD9Z out9Z nx9Z hD9Z hSn9Z hlo9Z h' tk' F' N' A'; replace N' := news_rot N'; (try simp only [List.cons_append, List.append_assoc] at N'); k_extra "CE"))
  trivial
def AfterH (w : World) (h₀ : Heap) (L : Addr) (m : Str → Option Value) (as : List Att) (old : List (Addr × Obj)) (s₀ : Shared) (fl : Flow) (s' : Shared) : Prop :=
  ∀ P : Flow → Shared → Prop, (∀ h tk D oD out nx, Fr h₀ L h (fun y => if y = Str.ofString "held" then some (.ref D) else m y) → News h₀ L h ((D, oD) :: (old ++ nx)) → oD.IsDictOf (strKind PySem.Challenge.rw_pq1344_01.row.prog w) out → SeenR as out nx → (D == sysModules) = false → Apart ((D, oD) :: nx) old → P .next { s₀ with heap := h, toks := tk }) → P fl s'
theorem held8 {w : World} {p : Program} {loose : List Str} {mean : ExcName → Option Value} {mg mb : Str → Option Value} {h₀ : Heap} {L fa : Addr} {cd : Value} {m : Str → Option Value} {s : Shared} {c da : Addr} {us : List Value} {n : Nat} {o oc : Obj} {as : List Att} {el ne x d li n1 n2 : Nat} {t1 t2 t3 t4 t5 kt : Tok} {i : Nat} {av sh : Value} {es : List Value} (B : Below callerA h₀ [] h₀) (X : (fragK.heap_1 w.params).In h₀) (T : Top p loose mean mg mb h₀) (F : Fr h₀ L s.heap m) (hm_v : m (Str.ofString "v") = some (.ref x)) (N : News h₀ L s.heap ((da, o) :: (c, listOf us.toArray n) :: (el, listOf es.toArray ne) :: (x, instObj 113 d) :: (d, dictOf (vd w.params t1 t2 t3 t4 t5 (.str (kS i) kt) (.ref li) av sh (.bool false)) n1) :: (li, listOf es.toArray n2) :: (L + 1, oc) :: attLed w as)) (hav : Hav w as av da o) :
    let e := (envOfC (Str.ofString "law") lawScope L fa cd); let A := callerA.deeper e; wpAny (model PySem.Challenge.rw_pq1344_01.row.prog w) A (exec (lawAt 8) e) (AfterH w h₀ L m as ((da, o) :: (c, listOf us.toArray n) :: (el, listOf es.toArray ne) :: (x, instObj 113 d) :: (d, dictOf (vd w.params t1 t2 t3 t4 t5 (.str (kS i) kt) (.ref li) av sh (.bool false)) n1) :: (li, listOf es.toArray n2) :: (L + 1, oc) :: attLed w as) s) (fun _ _ => False) s := by
  have eS : lawScope = ⟨_, _, _, _, _⟩ := rfl
  dsimp only at eS
  rw [eS]
  clear eS
  intro e9 A9
  show wpAny _ _ (exec (Stmt.Assign _ _ _) _) _ _ _
  (try k_fold)
  repeat' ((fail_if_success (with_reducible show AfterH _ _ _ _ _ _ _ _ _)); k_extra "S0"; k_extra "S1")
  (try dsimp only)
  (rename Fr _ _ _ _ => F7)
  (rename News _ _ _ _ => N7)
  (rename Apart _ _ => A7)
  exact fun P hP => hP _ _ _ _ _ _ F7 N7 (by assumption) (by assumption) (by assumption) A7
theorem kwL7_2 : True := by
  k_with "call ref" => (k_here; (with_reducible show wpAny _ _ (call (Value.ref 793) _) _ _ _); k_dflt (refine' tells_callGU (card2_tells _ ?zqhI ?zqhlen ?zqhk0 ?zqhk1) ?zqkB ?zqkF ?zqkX ?zqkN ?zqkS ?zqkU ?zqkT ?zqkK ?zqkd ?zqku ?_; k_extra "CA"; (case zqhI => with_reducible assumption); (case zqkS => k_extra "SUK"); (case zqkU => k_updF); (case zqhlen => k_extra "AR"); (case zqhk0 => k_extra "AR"); (case zqhk1 => k_extra "AR"); k_extra "CB"; k_whole; intro r9Z t9Z u9Z n9Z m9Z hr0Z hr1Z hulZ hI9Z h' tk' F' N' A'; (try dsimp only at N'); k_extra "CE"))
  k_with "call ref" => (k_here; (with_reducible show wpAny _ _ (call (Value.ref 800) _) _ _ _); k_dflt (refine' tells_callGU (row_tells _ ?zqhI ?zqhlen ?zqhk0 ?zqhk1) ?zqkB ?zqkF ?zqkX ?zqkN ?zqkS ?zqkU ?zqkT ?zqkK ?zqkd ?zqku ?_; k_extra "CA"; (case zqhI => with_reducible assumption); (case zqkS => k_extra "SUK"); (case zqkU => k_updF); (case zqhlen => k_extra "AR"); (case zqhk0 => k_extra "AR"); (case zqhk1 => k_extra "AR"); k_extra "CB"; k_whole; intro T9Z el9Z i9Z ne9Z n09Z n9Z es9Z us9Z ns9Z t9Z hulZ hI9Z hi9Z hel9Z hes9Z hTe9Z h' tk' F' N' A'; (try dsimp only at N'); k_extra "CE"))
  k_with "call ref" => (k_here; (with_reducible show wpAny _ _ (call (Value.ref 63) _) _ _ _); k_dflt (refine' tellsN_callG (null_new (k := .none) (it := .none)) ?zqkB ?zqkF ?zqkX ?zqkN ?zqkT ?zqkK ?zqkd ?zqku ?_; k_extra "CA"; k_extra "CB"; k_whole; intro x9Z d9Z n98Z q91Z q92Z q93Z hdx9Z h' tk' F' N' A'; k_extra "CE"))
  k_with "call ref" => (k_here; (with_reducible show wpAny _ _ (call (Value.ref 113) _) _ _ _); k_dflt (first | (refine' tellsN_callG (vector_new) ?zqkB ?zqkF ?zqkX ?zqkN ?zqkT ?zqkK ?zqkd ?zqku ?_; k_extra "CA"; k_extra "CB"; k_whole; intro x9Z d9Z q91Z q92Z q93Z q94Z q95Z hdx9Z h' tk' F' N' A'; k_extra "CE") | (refine' tellsN_callG (vector_new3) ?zqkB ?zqkF ?zqkX ?zqkN ?zqkT ?zqkK ?zqkd ?zqku ?_; k_extra "CA"; k_extra "CB"; k_whole; intro x9Z d9Z q91Z q92Z q93Z q94Z q95Z hdx9Z h' tk' F' N' A'; k_extra "CE")))
  trivial
/-- the value, and what it is made of -/
def ValOf (w : World) (b : Bool) (j : Nat) (ws : List Value) (xv : Addr) (vs : List (Addr × Obj)) : Prop :=
  (b = true ∧ ∃ dv z1 z2 z3 m1, vs = [(xv, instObj 63 dv), (dv, dictOf [ent w.params (Str.ofString "kind") z1 (.str (Str.ofString "NULL") z2), ent w.params (Str.ofString "attrs") z3 .none] m1)]) ∨ (b = false ∧ ∃ dv lv v1 v2 v3 v4 v5 vt vsh vlo m1 m2, vs = [(xv, instObj 113 dv), (dv, dictOf (vd w.params v1 v2 v3 v4 v5 (.str (kS j) vt) (.ref lv) .none vsh vlo) m1), (lv, listOf ws.toArray m2)])
def AfterC (w : World) (h₀ : Heap) (L : Addr) (m : Str → Option Value) (oc : Obj) (el ne : Nat) (es : List Value) (tl : List (Addr × Obj)) (s₀ : Shared) (fl : Flow) (s' : Shared) : Prop :=
  ∀ P : Flow → Shared → Prop, (∀ h tk m' j ol nw kl nk ka kb kc tp to xv b, ∀ ws : List Value, ∀ vs, Fr h₀ L h m' → m' (Str.ofString "v") = m (Str.ofString "v") → m' (Str.ofString "sort_of") = m (Str.ofString "sort_of") → m' (Str.ofString "entries") = m (Str.ofString "entries") → m' (Str.ofString "held") = m (Str.ofString "held") →
    m' (Str.ofString "value") = some (.ref xv) → m' (Str.ofString "places") = some (.int (es.length : Int) tp) → m' (Str.ofString "empty_one") = some (.bool b) → m' (Str.ofString "others") = some (.ref ol) → m' (Str.ofString "other_sort") = some (.str (kS j) to) → m' (Str.ofString "kinds") = some (.ref kl) →
    j < 3 → ws.length ≤ 10 → (∀ u ∈ ws, Okv j u) → ValOf w b j ws xv vs → News h₀ L h ((L + 1, oc) :: (vs ++ (ol, listOf ws.toArray nw) :: (kl, listOf #[.str (Str.ofString "logical") ka, .str (Str.ofString "integer") kb, .str (Str.ofString "character") kc] nk) :: (el, listOf es.toArray ne) :: tl)) → AllNe (L + 1) (vs ++ (ol, listOf ws.toArray nw) :: (kl, listOf #[.str (Str.ofString "logical") ka, .str (Str.ofString "integer") kb, .str (Str.ofString "character") kc] nk) :: (el, listOf es.toArray ne) :: tl) → P .next { s₀ with heap := h, toks := tk }) → P fl s'
theorem lawC {w : World} {p : Program} {loose : List Str} {mean : ExcName → Option Value} {mg mb : Str → Option Value} {h₀ : Heap} {L fa : Addr} {cd : Value} {m : Str → Option Value} {s : Shared} {c el ne n : Nat} {us es : List Value} {ms : List Int} {oc : Obj} {tl : List (Addr × Obj)} (B : Below callerA h₀ [] h₀) (X : (fragK.heap_1 w.params).In h₀) (T : Top p loose mean mg mb h₀) (F : Fr h₀ L s.heap m) (hm_cards : m (Str.ofString "cards") = some (.ref c)) (hm_entries : m (Str.ofString "entries") = some (.ref el)) (N : News h₀ L s.heap ((c, listOf us.toArray n) :: (el, listOf es.toArray ne) :: (L + 1, oc) :: tl)) (hI : IntsAre us ms) (hul : us.length ≤ 600) (hes : es.length ≤ 10) (hA1 : AllNe c ((el, listOf es.toArray ne) :: (L + 1, oc) :: tl)) (hA2 : AllNe (L + 1) ((c, listOf us.toArray n) :: (el, listOf es.toArray ne) :: tl)) :
    let e := (envOfC (Str.ofString "law") lawScope L fa cd); let A := callerA.deeper e; wpAny (model PySem.Challenge.rw_pq1344_01.row.prog w) A (execs ((lawBody.drop 9).take 5) e) (AfterC w h₀ L m oc el ne es tl s) (fun _ _ => False) s := by
  refine wo ?_
  simp (disch :=
  k_dflt (
  refine wk ?_
  have eS : lawScope = ⟨_, _, _, _, _⟩ := rfl
  dsimp only at eS
  rw [eS]
  clear eS
  intro e9 A9
  show wpAny _ _ (execs (_ :: _ :: _ :: _ :: _ :: []) _) _ _ _
  (try k_fold)
  repeat' ((fail_if_success (with_reducible show AfterC _ _ _ _ _ _ _ _ _ _ _)); k_extra "S0"; k_extra "S1")
  · (try dsimp only)
    (rename Fr _ _ _ _ => F7)
    (rename News _ _ _ _ => N7)
    (rename ∀ u, u ∈ _ → Okv _ u => hw7)
    refine fun P hP => hP _ _ _ _ _ _ _ _ _ _ _ _ _ _ _ _ _ F7 rfl rfl rfl rfl rfl rfl rfl rfl rfl rfl (by assumption) (by omega) hw7 (.inl ⟨by simp; assumption, _, _, _, _, _, rfl⟩) (news_subK N7 (by (try simp only [List.cons_append, List.nil_append]); k_extra "SUB")) ?_
    (try simp only [List.cons_append, List.nil_append])
    refine ⟨?_, ?_, ?_, ?_, ?_, hA2.2.2⟩
    all_goals (show @Ne Nat _ _; (try dsimp only); k_extra "NEQ")
  · (try dsimp only)
    (rename Fr _ _ _ _ => F7)
    (rename News _ _ _ _ => N7)
    (rename ∀ u, u ∈ _ → Okv _ u => hw7)
    refine fun P hP => hP _ _ _ _ _ _ _ _ _ _ _ _ _ _ _ _ _ F7 rfl rfl rfl rfl rfl rfl rfl rfl rfl rfl (by assumption) (by omega) hw7 (.inr ⟨by simp; assumption, _, _, _, _, _, _, _, _, _, _, _, _, rfl⟩) (news_subK N7 (by (try simp only [List.cons_append, List.nil_append]); k_extra "SUB")) ?_
    (try simp only [List.cons_append, List.nil_append])
    refine ⟨?_, ?_, ?_, ?_, ?_, ?_, hA2.2.2⟩
    all_goals (show @Ne Nat _ _; (try dsimp only); k_extra "NEQ")
  )) only [↓wt]
end
section
open PySem PySem.W PyProof.Rows PySem.Calls
set_option Elab.async false
set_option maxRecDepth 100000 
set_option maxHeartbeats 8000000 
theorem kwL8_0 : True := by
  k_with_none
  k_with "MEM" => first | (with_reducible exact List.mem_cons_self) | ((with_reducible refine List.mem_cons_of_mem _ ?_); k_extra "MEM")
  k_with "ENTER" => (refine' code_defP ?zqk1 ?zqk2 ?zqk3 ?zqk4 ?zqk5 ?zqkA ?zqkF ?zqkK ?zqk6 ?zqk7 ?zqk8 ?zqk9 ?zqkB ?_ ?zqc2 ?zqc3 ?zqc4 ?zqc5; (case zqkA => exact rfl); (case zqkF => exact rfl); (case zqkK => exact rfl); (case zqk1 => k_asm); (case zqk2 => k_asm); (case zqk3 => k_asm); (case zqk4 => k_asm); (case zqk5 => k_asm); (case zqk6 => k_is); (case zqk7 => k_is); (case zqk8 => k_room); (case zqk9 => first | exact BindsTo.of_eq rfl | exact binds_K (by k_in) rfl (by k_is) rfl rfl rfl); (case zqc5 => decide); (case zqkB => exact locs rfl); (case zqc2 => exact rfl); (case zqc3 => exact rfl); (case zqc4 => exact rfl); k_whole; intro g' L' h' Q' FG' F' N' B' X' T' hQ' e9 A9; (try dsimp only); (try k_lift B'); (try k_fold))
  k_with "S0" => ((fail_if_success (with_reducible show Post _ _ _ _ _ _ _ _)); (fail_if_success (with_reducible show LoopP _ _ _ _ _ _ _ _)); (fail_if_success (with_reducible show CmpP _ _ _ _ _ _ _ _ _ _ _ _ _ _ _)))
  k_with "S1" => first | (k_unfold; (try dsimp only)) | (k_end; wrow_close) | walk1 | (with_reducible refine hand (by assumption) ?_; try dsimp only) | (dsimp only; walk1) | (leave1; try dsimp only)
  k_with "ROOM" => first | (refine' room0 ?zqh ?zqe; (case zqh => assumption); (case zqe => exact rfl)) | (refine' room1 ?zqh ?zqe; (case zqh => assumption); (case zqe => exact rfl)) | (refine' room2 ?zqh ?zqe; (case zqh => assumption); (case zqe => exact rfl)) | (refine' room3 ?zqh ?zqe; (case zqh => assumption); (case zqe => exact rfl)) | (refine' roomz ?zqh; (case zqh => assumption)) | ktr_room
  k_with "UNITS" => first | (refine' room0 ?zqh ?zqe; (case zqh => assumption); (case zqe => exact rfl)) | (refine' room1 ?zqh ?zqe; (case zqh => assumption); (case zqe => exact rfl)) | (refine' room2 ?zqh ?zqe; (case zqh => assumption); (case zqe => exact rfl)) | (refine' room3 ?zqh ?zqe; (case zqh => assumption); (case zqe => exact rfl)) | exact lt_num rfl | ktr_units
  k_with "AR" => first | assumption | exact Nat.le_max_right _ _ | exact Nat.le_max_left _ _ | exact Nat.max_lt.mpr ⟨by assumption, by assumption⟩ | (refine' le_up ?zqh ?zqe; (case zqh => assumption); (case zqe => exact rfl)) | omega
  k_with "SUT" => first | exact sub_self | (refine sub_skip ?_; k_extra "SUT")
  k_with "SUK" => first | exact sub_nil | k_extra "SUT" | k_extra "SUB"
  k_with "KEEP" => first | (refine keep_hd (List.Mem.head _) ?_; k_extra "KEEP") | exact keep_of (by k_extra "SUK") | ((with_reducible refine' keep_cons ?zqkm ?_); (case zqkm => k_mem); k_extra "KEEP")
  k_with "APQ" => (rename Apart _ _ => h9; first | exact Apart.at h9 (by k_extra "MEM") (by k_extra "MEM") | exact ap_at h9 (by k_extra "MEM") (by k_extra "MEM") | (clear h9; k_extra "APQ"))
  k_with "ANQ" => (rename AllNe _ _ => h9; first | exact AllNe.at h9 (by k_extra "MEM") | exact an_at h9 (by k_extra "MEM") | (clear h9; k_extra "ANQ"))
  k_with "ALQ" => (rename AllLt _ _ => h9; first | exact lt_ne h9 (by k_extra "MEM") | exact lt_en h9 (by k_extra "MEM") | exact lt_ne2 h9 (by assumption) (by k_extra "MEM") | exact lt_en2 h9 (by assumption) (by k_extra "MEM") | (clear h9; k_extra "ALQ"))
  k_with "NEQ" => first | assumption | exact Ne.symm (by assumption) | exact Nat.ne_of_lt (by assumption) | exact Nat.ne_of_gt (by assumption) | k_extra "ALQ" | k_extra "ANQ" | k_extra "APQ" | omega
  k_with "APS" => (rename Apart _ _ => h9; first | exact Apart.subA h9 rfl (by k_extra "SUK") | (clear h9; k_extra "APS"))
  k_with "NE1" => (refine neN ?_; (try dsimp only); k_extra "NEQ")
  k_with "ALL" => first | exact all_nil | (rename AllLt _ _ => h9; exact lt_sub h9 (by k_extra "SUT")) | (refine' all_cons ?zqa ?zqb; (case zqa => k_ne); (case zqb => k_all))
  k_with "ALN" => first | exact ne_nil | (refine ne_cons ?_ ?_; (focus ((try dsimp only); k_extra "NEQ")); k_extra "ALN")
  k_with "APM" => first | exact ap_nil | k_extra "APS" | (refine ap_cons ?_ ?_; (focus k_extra "ALN"); k_extra "APM")
  k_with "CA" => ((case zqkB => k_asm); (case zqkF => k_asm); (case zqkX => k_asm); (case zqkN => k_asm))
  k_with "CB" => ((case zqkT => k_asm); (case zqkK => first | exact rfl | assumption); (case zqkd => k_extra "ROOM"); (case zqku => k_extra "UNITS"))
  k_with "CE" => all_goals ((try ((with_reducible rename News _ _ _ _ => h9); simp only [List.nil_append, List.cons_append] at h9)); (try ((with_reducible rename Apart [] _ => h7); clear h7)); (try dsimp only [Option.getD_some, Option.getD_none]); (try k_sweep); (try k_fold))
  k_with "CZ" => all_goals ((try dsimp only [Option.getD_some, Option.getD_none]); (try k_sweep); (try k_fold))
  k_with "call builtin:len" => (k_here; (with_reducible show wpAny _ _ (call (Value.builtin "len") [Value.ref _]) _ _ _); k_dflt (refine' len_sym ?zqk1 ?zqk2 ?zqk3 ?_; (case zqk1 => k_asm); (case zqk2 => k_mem); (case zqk3 => k_extra "AR"); k_whole))
  k_with "getMethod ref" => (k_here; (with_reducible show wpAny _ _ (getMethod (Value.ref _) (PySem.Str.ofString "get") _) _ _ _); k_dflt (refine' get_method ?zqk1 ?zqk2 ?zqk3 ?_; (case zqk1 => k_asm); (case zqk2 => k_mem); (case zqk3 => with_reducible assumption); k_whole))
  k_with "call builtin:dict.get" => (k_here; (with_reducible show wpAny _ _ (call (Value.builtin "dict.get") [Value.ref _, Value.str _ _]) _ _ _); k_dflt (refine' get_call ?zqk0 ?zqk1 ?zqk2 ?zqk3 ?_; (case zqk1 => k_asm); (case zqk2 => k_mem); (case zqk3 => with_reducible assumption); (case zqk0 => with_reducible assumption); k_whole))
  k_with "LOCA" => first | exact LocArgs.nil | (refine' LocArgs.cons ?zqlk ?zqld ?zqlv ?zqlt; (case zqlk => kernel_rfl!); (case zqld => kernel_rfl); (case zqlv => first | rfl | assumption); (case zqlt => k_extra "LOCA"))
  k_with "eval Call" => (k_here; (with_reducible show wpAny _ _ (eval (Expr.Call (Expr.Name _ _) (Expr.Name _ _ :: _) [] _) _) _ _ _); first | ((with_reducible refine' callO_loc ?zqF ?zqX ?zqT ?zqe ?zqk ?zqa ?zqb ?zqc ?zql ?_); k_dflt ((case zqF => k_asm); (case zqX => k_asm); (case zqT => k_asm); (case zqa => exact rfl); (case zqb => kernel_rfl!); (case zqc => kernel_rfl); (case zqe => k_is); (case zqk => k_is); (case zql => k_extra "LOCA"); k_whole)) | ((with_reducible refine' callC_loc ?zqF ?zqX ?zqT ?zqe ?zqk ?zqa ?zqb ?zqc ?zql ?_); k_dflt ((case zqF => k_asm); (case zqX => k_asm); (case zqT => k_asm); (case zqa => exact rfl); (case zqb => kernel_rfl!); (case zqc => kernel_rfl); (case zqe => k_is); (case zqk => k_is); (case zql => k_extra "LOCA"); k_whole)))
  k_with "eval Attribute Name" => (k_here; (with_reducible refine' attrO_loc ?zqF ?zqv ?zqa ?zqb ?zqc ?_); k_dflt ((case zqF => k_asm); (case zqa => exact rfl); (case zqb => kernel_rfl!); (case zqc => kernel_rfl); (case zqv => first | rfl | assumption); k_whole))
  k_with "ite" => (k_here; first | (k_closed; first | ((with_reducible refine ite_pos ?zqk2 ?_); k_dflt (case zqk2 => decide)) | ((with_reducible refine ite_neg ?zqk2 ?_); k_dflt (case zqk2 => decide))) | (refine' ite_bf ?zqk1 ?_; (case zqk1 => first | assumption | exact decide_eq_false (by omega) | exact beq_eq_false_iff_ne.mpr (by omega))) | (refine' ite_bt ?zqk1 ?_; (case zqk1 => first | assumption | exact decide_eq_true (by omega) | exact beq_iff_eq.mpr (by omega))))
  k_with "call type:dict" => (k_here; (with_reducible show wpAny _ _ (call (Value.type "dict") [Value.ref _]) _ _ _); k_dflt (refine' dict_copyK ?zqF ?zqN ?zqb ?zqm ?zqD ?zql ?zqz ?_; (case zqF => k_asm); (case zqN => k_asm); (case zqb => exact Top.nolimit (by k_asm)); (case zqm => k_mem); (case zqD => with_reducible assumption); (case zql => with_reducible assumption); (case zqz => omega); k_whole); intro d' h' o' F' N' l1 lo' hd'; (try k_lt l1))
  k_with "eval Name" => (k_here; first | ((with_reducible refine' nameO_L ?zqF ?zqv ?_ ?zqa ?zqb ?zqc); k_dflt ((case zqF => k_asm); (case zqa => exact rfl); (case zqb => kernel_rfl!); (case zqc => kernel_rfl); (case zqv => first | rfl | assumption); k_whole)) | ((with_reducible refine' nameO_K ?zqF ?zqX ?zqT ?zqe ?_ ?zqa ?zqb ?zqc); k_dflt ((case zqF => k_asm); (case zqX => k_asm); (case zqT => k_asm); (case zqa => exact rfl); (case zqb => kernel_rfl!); (case zqc => kernel_rfl); (case zqe => k_is); k_whole)) | ((with_reducible refine' nameC_L ?zqF ?zqv ?_ ?zqa ?zqb ?zqc); k_dflt ((case zqF => k_asm); (case zqa => exact rfl); (case zqb => kernel_rfl!); (case zqc => kernel_rfl); (case zqv => first | rfl | assumption); k_whole)) | ((with_reducible refine' nameC_K ?zqF ?zqX ?zqT ?zqe ?_ ?zqa ?zqb ?zqc); k_dflt ((case zqF => k_asm); (case zqX => k_asm); (case zqT => k_asm); (case zqa => exact rfl); (case zqb => kernel_rfl!); (case zqc => kernel_rfl); (case zqe => k_is); k_whole)))
  trivial
theorem kwL8_1 : True := by
  k_with "SUB" => first | exact sub_nil | ((with_reducible refine' sub_cons ?zqsm ?_); (case zqsm => k_mem); k_extra "SUB") | (refine sub_app ?_ ?_; (focus k_extra "SUB"); k_extra "SUB") | k_extra "SUT" | (intro p9 hp9; repeat' (first | exact hp9 | refine List.mem_cons_of_mem _ ?_ | exact List.mem_append.mpr (Or.inl hp9) | refine List.mem_append.mpr (Or.inr ?_)))
  k_with "OWN" => (intro p9 hp9; repeat' (first | exact hp9 | refine List.mem_cons_of_mem _ ?_ | exact List.mem_append.mpr (Or.inl hp9) | refine List.mem_append.mpr (Or.inr ?_)))
  k_with "ALL" => ((rename AllNe _ _ => hAn9); first | (refine AllNe.all ?_; exact hAn9) | (refine fun p hp => AllNe.all hAn9 p ?_; repeat' (first | exact hp | exact List.mem_append.mpr (Or.inl hp) | exact List.mem_append.mpr (Or.inr hp) | refine List.mem_cons_of_mem _ ?_)) | (clear hAn9; k_all))
  k_with "eval Name" => (k_here; (with_reducible show wpAny _ _ (eval (Expr.Name _ _) (envOfC _ _ _ _ _)) _ _ _); k_dflt (refine' ldLoc ?zqF ?zqv ?_ ?zqa ?zqb ?zqc; (case zqa => rfl); (case zqb => rfl); (case zqc => decide); (case zqF => k_asm); (case zqv => assumption); k_whole))
  trivial
def Ended (h₀ : Heap) (L : Addr) (s₀ : Shared) (fl : Flow) (s' : Shared) : Prop := fl = .ret (.bool true) ∧ ∃ h tk m', s' = { s₀ with heap := h, toks := tk } ∧ Fr h₀ L h m'
theorem ret15 {w : World} {p : Program} {loose : List Str} {mean : ExcName → Option Value} {mg mb : Str → Option Value} {h₀ : Heap} {L fa : Addr} {cd : Value} {m : Str → Option Value} {s : Shared} (B : Below callerA h₀ [] h₀) (X : (fragK.heap_1 w.params).In h₀) (T : Top p loose mean mg mb h₀) (F : Fr h₀ L s.heap m) (N : News h₀ L s.heap []) : let e := (envOfC (Str.ofString "law") lawScope L fa cd); let A := callerA.deeper e; wpAny (model PySem.Challenge.rw_pq1344_01.row.prog w) A (exec (lawAt 15) e) (Ended h₀ L s) (fun _ _ => False) s := by
  have eS : lawScope = ⟨_, _, _, _, _⟩ := rfl
  dsimp only at eS
  rw [eS]
  clear eS
  intro e9 A9
  show wpAny _ _ (exec (Stmt.Return _ _) _) _ _ _
  (try k_fold)
  repeat' ((fail_if_success (with_reducible show Ended _ _ _ _ _)); k_extra "S0"; k_extra "S1")
  exact ⟨rfl, _, _, _, rfl, F⟩
theorem not4 {k : Str} {as : List Att} (h : Ok4 as) (h1 : k ≠ Str.ofString "dim") (h2 : k ≠ Str.ofString "names") : k ∉ (attKvs as).map (·.1) ∧ as.length ≤ 1 := by
  rcases h with rfl | ⟨a, rfl, _, ⟨e, _⟩ | ⟨e, _⟩⟩
  · exact ⟨(fun h => nomatch h), Nat.zero_le _⟩
  · exact ⟨by simpa [attKvs, e] using h1, Nat.le_refl _⟩
  · exact ⟨by simpa [attKvs, e] using h2, Nat.le_refl _⟩
theorem notN {k k' : Str} {as : List Att} (h : OkN k Ok4 as) (h1 : k' ≠ Str.ofString "dim") (h2 : k' ≠ Str.ofString "names") (h3 : k' ≠ k) : k' ∉ (attKvs as).map (·.1) ∧ as.length ≤ 2 := by
  rcases h with h | ⟨b, a, rfl, h, e, _⟩
  · obtain ⟨p, q⟩ := not4 h h1 h2
    exact ⟨p, by omega⟩
  · obtain ⟨p, q⟩ := not4 h h1 h2
    refine ⟨?_, by rw [List.length_append]; simp; omega⟩
    simp only [attKvs, List.map_append, List.map_cons, List.map_nil, List.mem_append, List.mem_cons, List.not_mem_nil, or_false, not_or] at p ⊢
    exact ⟨p, by rw [e]; exact h3⟩
theorem attKvs_length (as : List Att) : (attKvs as).length = as.length := by simp [attKvs]
theorem dr_all {w : World} {as : List Att} {av : Value} {da : Addr} {o : Obj} (h : Ok6 as) (hD : o.IsDictOf (strKind PySem.Challenge.rw_pq1344_01.row.prog w) (attKvs as)) (hlo : (da == sysModules) = false) (hav : (av = .none ∧ as = []) ∨ av = .ref da) :
    ∃ xd dd ld ex ed el, Dr w av da o (attKvs as) xd dd ld ex ed el ∧ (xd, ex) ∈ (da, o) :: attLed w as ∧ (dd, ed) ∈ (da, o) :: attLed w as ∧ (ld, el) ∈ (da, o) :: attLed w as := by
  rcases hav with ⟨rfl, _⟩ | rfl
  · exact ⟨da, da, da, o, o, o, .inl rfl, .head _, .head _, .head _⟩
  · exact ok6_dr h hD hlo
theorem lawAll {w : World} {p : Program} {loose : List Str} {mean : ExcName → Option Value} {mg mb : Str → Option Value} {h₀ : Heap} {L fa : Addr} {cd : Value} {m : Str → Option Value} {s : Shared} {oc : Obj} {ov : Option Value} {sl : Addr} {ss : List Value} {ns : List Int} (B : Below callerA h₀ [] h₀) (X : (fragK.heap_1 w.params).In h₀) (T : Top p loose mean mg mb h₀) (F : Fr h₀ L s.heap m) (hm_script : m (Str.ofString "script") = some (.ref sl)) (N : News h₀ L s.heap [(L + 1, oc)]) (hoc : oc.data = .cell ov) (hL : h₀.IsList sl ss.toArray) (hI : IntsAre ss ns) (hlen : ns.length ≤ 63) :
    wpAny (model PySem.Challenge.rw_pq1344_01.row.prog w) (callerA.deeper (envOfC (Str.ofString "law") lawScope L fa cd)) (execs lawBody (envOfC (Str.ofString "law") lawScope L fa cd)) (Ended h₀ L s) (fun _ _ => False) s := by
  refine wo ?_
  simp (disch :=
  k_dflt (
  refine wk ?_
  have nd := nd4
  show wpAny _ _ (execs (lawBody.take 4 ++ (lawAt 4 :: lawAt 5 :: lawAt 6 :: lawAt 7 :: lawAt 8 :: ((lawBody.drop 9).take 5 ++ [lawAt 14, lawAt 15]))) _) _ _ _
  refine execs_app (drawn (lawA B X T F hm_script N hL hI hlen) ?_)
  clear F N hI
  intro h tk m c da n o el ne x d li n1 n2 t1 t2 t3 t4 t5 kt i sh ts us es ms F hc hdr hen hv hso N hD hlo hI hul hi hel hes hA1 hA2 hB hC
  refine ⟨rfl, wpAny_execs_cons (drawn (dress4 B X T F hc hdr hen N hD hI hul hel hA1 hA2) ?_)⟩
  clear F N hD hI hul hA1 hA2
  intro h tk o us ms n as F N hD hI hul hok hA1 hA2 hA3
  obtain ⟨hn1, hn2⟩ := not4 hok (Ne.symm nd.2.1) (Ne.symm nd.2.2.2.1)
  refine wpAny_execs_cons (drawn (dress5 B X T F hc hdr hen N hD hI hul (by rw [attKvs_length]; omega) hA1 hA2 hA3 hok hn1) ?_)
  clear F N hD hI hul hA1 hA2 hA3 hok hn1 hn2
  intro h tk o us ms n as F N hD hI hul hok hA1 hA2 hA3
  obtain ⟨hn1, hn2⟩ := notN hok (Ne.symm nd.2.2.1) (Ne.symm nd.2.2.2.2.1) (Ne.symm nd.2.2.2.2.2.1)
  refine wpAny_execs_cons (drawn (dress6 B X T F hc hdr hen N hD hI hul (by rw [attKvs_length]; omega) hA1 hA2 hA3 hok hn1) ?_)
  clear F N hD hI hul hA1 hA2 hA3 hok hn1 hn2
  intro h tk o us ms n as F N hD hI hul hok hA1 hA2 hA3
  have h6 : Ok6 as := hok
  have hg := ok6_good h6
  have hg' : Good6' as := ⟨hg.nd, by have := hg.len; omega, hg.us⟩
  have hd1 : AllNe d [(da, o), (c, listOf us.toArray n), (el, listOf es.toArray ne), (x, instObj 113 d)] := ⟨Ne.symm hA1.2.2.2.1, Ne.symm hA2.2.2.1, hB.1, hB.2.1, True.intro⟩
  have hd2 : AllNe d ((li, listOf es.toArray n2) :: (L + 1, oc) :: attLed w as) := ⟨hB.2.2.1, hB.2.2.2.1, AllNe.of fun q hq => Ne.symm (hA3 q hq _ (.tail _ (.tail _ (.head _))))⟩
  refine wpAny_execs_cons (drawn (dress7 B X T F hv hdr N hD hlo hd1 hd2) ?_)
  clear F N hd1 hd2
  intro h tk av n1 F N hav
  have hH : Hav w as av da o := Hav.v hg' hav hD hlo
  refine wpAny_execs_cons (drawn (held8 B X T F hv N hH) ?_)
  clear F N
  intro h tk D oD out nx F N hoD hSn hDlo hAp
  have hApx := hAp.all
  have hX : ∀ p : Addr × Obj, p ∈ _ → ∀ q ∈ nx, q.1 ≠ p.1 := fun p hp q hq => Ne.symm (hApx q (.tail _ hq) p hp)
  have hc1 : AllNe c ((el, listOf es.toArray ne) :: (L + 1, oc) :: (D, oD) :: (da, o) :: (x, instObj 113 d) :: (d, dictOf (vd w.params t1 t2 t3 t4 t5 (.str (kS i) kt) (.ref li) av sh (.bool false)) n1) :: (li, listOf es.toArray n2) :: (attLed w as ++ nx)) := ⟨hA2.1, hA2.2.2.2.2.1, Ne.symm hAp.1.2.1, Ne.symm hA1.1, hA2.2.1, hA2.2.2.1, hA2.2.2.2.1, AllNe.of fun q hq => (List.mem_append.mp hq).elim (fun h => hA2.2.2.2.2.2.all q h) (fun h => hX _ (.tail _ (.head _)) q h)⟩
  have hc2 : AllNe (L + 1) ((c, listOf us.toArray n) :: (el, listOf es.toArray ne) :: (D, oD) :: (da, o) :: (x, instObj 113 d) :: (d, dictOf (vd w.params t1 t2 t3 t4 t5 (.str (kS i) kt) (.ref li) av sh (.bool false)) n1) :: (li, listOf es.toArray n2) :: (attLed w as ++ nx)) := ⟨hC.2.1, hC.2.2.1, Ne.symm hAp.1.2.2.2.2.2.2.1, hC.1, hC.2.2.2.1, hC.2.2.2.2.1, hC.2.2.2.2.2.1, AllNe.of fun q hq => (List.mem_append.mp hq).elim (fun h => Ne.symm (hA3 q h _ (.tail _ (.tail _ (.tail _ (.tail _ (.head _))))))) (fun h => hX _ (.tail _ (.tail _ (.tail _ (.tail _ (.tail _ (.tail _ (.head _))))))) q h)⟩
  have N2 : News h₀ L h ((c, listOf us.toArray n) :: (el, listOf es.toArray ne) :: (L + 1, oc) :: (D, oD) :: (da, o) :: (x, instObj 113 d) :: (d, dictOf (vd w.params t1 t2 t3 t4 t5 (.str (kS i) kt) (.ref li) av sh (.bool false)) n1) :: (li, listOf es.toArray n2) :: (attLed w as ++ nx)) := by
    simp only [List.cons_append] at N
    exact news_subK N (by k_extra "SUB")
  refine execs_app (drawn (lawC B X T F hc hen N2 hI hul hel hc1 hc2) ?_)
  clear F N N2 hc1 hc2 hX hApx hAp
  intro h tk m' j ol nw kl nk ka kb kc tp to xv b ws vs F k1 k2 k3 k4 k5 k6 k7 k8 k9 k10 hj hwl hws hV N hcell
  obtain ⟨xd, dd, ld, ex, ed, eld, hDr, p1, p2, p3⟩ := dr_all h6 hD hlo hav
  have hal : ∀ q ∈ (ol, listOf ws.toArray nw) :: (kl, listOf #[.str (Str.ofString "logical") ka, .str (Str.ofString "integer") kb, .str (Str.ofString "character") kc] nk) :: (el, listOf es.toArray ne) :: (D, oD) :: (da, o) :: (x, instObj 113 d) :: (d, dictOf (vd w.params t1 t2 t3 t4 t5 (.str (kS i) kt) (.ref li) av sh (.bool false)) n1) :: (li, listOf es.toArray n2) :: (attLed w as ++ nx), q ∈ vs ++ (ol, listOf ws.toArray nw) :: (kl, listOf #[.str (Str.ofString "logical") ka, .str (Str.ofString "integer") kb, .str (Str.ofString "character") kc] nk) :: (el, listOf es.toArray ne) :: (D, oD) :: (da, o) :: (x, instObj 113 d) :: (d, dictOf (vd w.params t1 t2 t3 t4 t5 (.str (kS i) kt) (.ref li) av sh (.bool false)) n1) :: (li, listOf es.toArray n2) :: (attLed w as ++ nx) := fun q hq => List.mem_append_right _ hq
  have hq : ∀ q ∈ (da, o) :: attLed w as, q ∈ (ol, listOf ws.toArray nw) :: (kl, listOf #[.str (Str.ofString "logical") ka, .str (Str.ofString "integer") kb, .str (Str.ofString "character") kc] nk) :: (el, listOf es.toArray ne) :: (D, oD) :: (da, o) :: (x, instObj 113 d) :: (d, dictOf (vd w.params t1 t2 t3 t4 t5 (.str (kS i) kt) (.ref li) av sh (.bool false)) n1) :: (li, listOf es.toArray n2) :: (attLed w as ++ nx) := by k_extra "SUB"
  have hnx : ∀ q ∈ nx, q ∈ (ol, listOf ws.toArray nw) :: (kl, listOf #[.str (Str.ofString "logical") ka, .str (Str.ofString "integer") kb, .str (Str.ofString "character") kc] nk) :: (el, listOf es.toArray ne) :: (D, oD) :: (da, o) :: (x, instObj 113 d) :: (d, dictOf (vd w.params t1 t2 t3 t4 t5 (.str (kS i) kt) (.ref li) av sh (.bool false)) n1) :: (li, listOf es.toArray n2) :: (attLed w as ++ nx) := by k_extra "SUB"
  have hb : ∀ q ∈ [(x, instObj 113 d), (d, dictOf (vd w.params t1 t2 t3 t4 t5 (.str (kS i) kt) (.ref li) av sh (.bool false)) n1), (da, o), (xd, ex), (dd, ed), (ld, eld), (li, listOf es.toArray n2), (el, listOf es.toArray ne), (ol, listOf ws.toArray nw), (kl, listOf #[.str (Str.ofString "logical") ka, .str (Str.ofString "integer") kb, .str (Str.ofString "character") kc] nk), (D, oD)], q ∈ (ol, listOf ws.toArray nw) :: (kl, listOf #[.str (Str.ofString "logical") ka, .str (Str.ofString "integer") kb, .str (Str.ofString "character") kc] nk) :: (el, listOf es.toArray ne) :: (D, oD) :: (da, o) :: (x, instObj 113 d) :: (d, dictOf (vd w.params t1 t2 t3 t4 t5 (.str (kS i) kt) (.ref li) av sh (.bool false)) n1) :: (li, listOf es.toArray n2) :: (attLed w as ++ nx) := by
    repeat (first | exact List.forall_mem_nil _ | refine List.forall_mem_cons.mpr ⟨by first | k_mem | exact hq _ p1 | exact hq _ p2 | exact hq _ p3, ?_⟩)
  have LM : LawM m' x xv ol D kl el (es.length : Int) b (kS i) (kS j) tp ts to := ⟨k1.trans hv, k5, k6, k7, k8, k2.trans hso, k9, k3.trans hen, k4, k10⟩
  refine ⟨rfl, wpAny_execs_cons (wpAny_mono (loop14 B X T F LM N hoc hcell ?body) (fun fl s' h => ?_) fun _ _ e => e)⟩
  case body =>
    intro m₁ s₁ all' oc₁ ov₁ ql q9 qs ix dm y1 y2 y3 n9 M₁ hmi F₁ N₁ hoc₁ hcell₁ hqm hall hqs
    rcases hV with ⟨rfl, dv, z1, z2, z3, m1, rfl⟩ | ⟨rfl, dv, lv, v1, v2, v3, v4, v5, vt, vsh, vlo, m1, m2, rfl⟩
    · exact bodyN (nx := nx) (as := as) (out := out) B X T F₁ M₁ hmi N₁ hoc₁ hcell₁ hqm (by
        refine List.forall_mem_append (l₁ := [(x, instObj 113 d), (d, dictOf (vd w.params t1 t2 t3 t4 t5 (.str (kS i) kt) (.ref li) av sh (.bool false)) n1), (da, o), (xd, ex), (dd, ed), (ld, eld), (li, listOf es.toArray n2), (el, listOf es.toArray ne), (ol, listOf ws.toArray nw), (kl, listOf #[.str (Str.ofString "logical") ka, .str (Str.ofString "integer") kb, .str (Str.ofString "character") kc] nk), (D, oD)]).mpr ⟨fun q h => hall q (hal q (hb q h)), fun q h => hall q (List.mem_append_left _ h)⟩) (fun q h => hall q (hal q (hnx q h))) (fun q h => hall q (hal q (hq q (.tail _ h)))) hqs hi hj hDr (by omega) hes hws (by omega) hav hg' hH hg hoD hDlo hSn
    · exact bodyV (nx := nx) (as := as) (out := out) B X T F₁ M₁ hmi N₁ hoc₁ hcell₁ hqm (by
        refine List.forall_mem_append (l₁ := [(x, instObj 113 d), (d, dictOf (vd w.params t1 t2 t3 t4 t5 (.str (kS i) kt) (.ref li) av sh (.bool false)) n1), (da, o), (xd, ex), (dd, ed), (ld, eld), (li, listOf es.toArray n2), (el, listOf es.toArray ne), (ol, listOf ws.toArray nw), (kl, listOf #[.str (Str.ofString "logical") ka, .str (Str.ofString "integer") kb, .str (Str.ofString "character") kc] nk), (D, oD)]).mpr ⟨fun q h => hall q (hal q (hb q h)), fun q h => hall q (List.mem_append_left _ h)⟩) (fun q h => hall q (hal q (hnx q h))) (fun q h => hall q (hal q (hq q (.tail _ h)))) hqs hi hj hDr (by omega) hes hws (by omega) hav hg' hH hg hoD hDlo hSn
  obtain ⟨rfl, h, tk, m', rfl, F⟩ := h
  refine wpAny_execs_cons (wpAny_mono (ret15 B X T F News.nil) (fun fl s' h => ?_) fun _ _ e => e)
  obtain ⟨rfl, h, tk, m', rfl, F⟩ := h
  exact ⟨rfl, _, _, _, rfl, F⟩
  )) only [↓wt]
end
section
open PySem PySem.W PyProof.Rows PySem.Calls
set_option Elab.async false
set_option maxRecDepth 100000 
set_option maxHeartbeats 8000000 
theorem kwL9_0 : True := by
  k_with_none
  k_with "MEM" => first | (with_reducible exact List.mem_cons_self) | ((with_reducible refine List.mem_cons_of_mem _ ?_); k_extra "MEM")
  k_with "ENTER" => (refine' code_defP ?zqk1 ?zqk2 ?zqk3 ?zqk4 ?zqk5 ?zqkA ?zqkF ?zqkK ?zqk6 ?zqk7 ?zqk8 ?zqk9 ?zqkB ?_ ?zqc2 ?zqc3 ?zqc4 ?zqc5; (case zqkA => exact rfl); (case zqkF => exact rfl); (case zqkK => exact rfl); (case zqk1 => k_asm); (case zqk2 => k_asm); (case zqk3 => k_asm); (case zqk4 => k_asm); (case zqk5 => k_asm); (case zqk6 => k_is); (case zqk7 => k_is); (case zqk8 => k_room); (case zqk9 => first | exact BindsTo.of_eq rfl | exact binds_K (by k_in) rfl (by k_is) rfl rfl rfl); (case zqc5 => decide); (case zqkB => exact locs rfl); (case zqc2 => exact rfl); (case zqc3 => exact rfl); (case zqc4 => exact rfl); k_whole; intro g' L' h' Q' FG' F' N' B' X' T' hQ' e9 A9; (try dsimp only); (try k_lift B'); (try k_fold))
  k_with "S0" => ((fail_if_success (with_reducible show Post _ _ _ _ _ _ _ _)); (fail_if_success (with_reducible show LoopP _ _ _ _ _ _ _ _)); (fail_if_success (with_reducible show CmpP _ _ _ _ _ _ _ _ _ _ _ _ _ _ _)))
  k_with "S1" => first | (k_unfold; (try dsimp only)) | (k_end; wrow_close) | walk1 | (with_reducible refine hand (by assumption) ?_; try dsimp only) | (dsimp only; walk1) | (leave1; try dsimp only)
  k_with "ROOM" => first | (refine' room0 ?zqh ?zqe; (case zqh => assumption); (case zqe => exact rfl)) | (refine' room1 ?zqh ?zqe; (case zqh => assumption); (case zqe => exact rfl)) | (refine' room2 ?zqh ?zqe; (case zqh => assumption); (case zqe => exact rfl)) | (refine' room3 ?zqh ?zqe; (case zqh => assumption); (case zqe => exact rfl)) | (refine' roomz ?zqh; (case zqh => assumption)) | ktr_room
  k_with "UNITS" => first | (refine' room0 ?zqh ?zqe; (case zqh => assumption); (case zqe => exact rfl)) | (refine' room1 ?zqh ?zqe; (case zqh => assumption); (case zqe => exact rfl)) | (refine' room2 ?zqh ?zqe; (case zqh => assumption); (case zqe => exact rfl)) | (refine' room3 ?zqh ?zqe; (case zqh => assumption); (case zqe => exact rfl)) | exact lt_num rfl | ktr_units
  k_with "AR" => first | assumption | exact Nat.le_max_right _ _ | exact Nat.le_max_left _ _ | exact Nat.max_lt.mpr ⟨by assumption, by assumption⟩ | (refine' le_up ?zqh ?zqe; (case zqh => assumption); (case zqe => exact rfl)) | omega
  k_with "SUT" => first | exact sub_self | (refine sub_skip ?_; k_extra "SUT")
  k_with "SUK" => first | exact sub_nil | k_extra "SUT" | k_extra "SUB"
  k_with "KEEP" => first | (refine keep_hd (List.Mem.head _) ?_; k_extra "KEEP") | exact keep_of (by k_extra "SUK") | ((with_reducible refine' keep_cons ?zqkm ?_); (case zqkm => k_mem); k_extra "KEEP")
  k_with "APQ" => (rename Apart _ _ => h9; first | exact Apart.at h9 (by k_extra "MEM") (by k_extra "MEM") | exact ap_at h9 (by k_extra "MEM") (by k_extra "MEM") | (clear h9; k_extra "APQ"))
  k_with "ANQ" => (rename AllNe _ _ => h9; first | exact AllNe.at h9 (by k_extra "MEM") | exact an_at h9 (by k_extra "MEM") | (clear h9; k_extra "ANQ"))
  k_with "ALQ" => (rename AllLt _ _ => h9; first | exact lt_ne h9 (by k_extra "MEM") | exact lt_en h9 (by k_extra "MEM") | exact lt_ne2 h9 (by assumption) (by k_extra "MEM") | exact lt_en2 h9 (by assumption) (by k_extra "MEM") | (clear h9; k_extra "ALQ"))
  k_with "NEQ" => first | assumption | exact Ne.symm (by assumption) | exact Nat.ne_of_lt (by assumption) | exact Nat.ne_of_gt (by assumption) | k_extra "ALQ" | k_extra "ANQ" | k_extra "APQ" | omega
  k_with "APS" => (rename Apart _ _ => h9; first | exact Apart.subA h9 rfl (by k_extra "SUK") | (clear h9; k_extra "APS"))
  k_with "NE1" => (refine neN ?_; (try dsimp only); k_extra "NEQ")
  k_with "ALL" => first | exact all_nil | (rename AllLt _ _ => h9; exact lt_sub h9 (by k_extra "SUT")) | (refine' all_cons ?zqa ?zqb; (case zqa => k_ne); (case zqb => k_all))
  k_with "ALN" => first | exact ne_nil | (refine ne_cons ?_ ?_; (focus ((try dsimp only); k_extra "NEQ")); k_extra "ALN")
  k_with "APM" => first | exact ap_nil | k_extra "APS" | (refine ap_cons ?_ ?_; (focus k_extra "ALN"); k_extra "APM")
  k_with "CA" => ((case zqkB => k_asm); (case zqkF => k_asm); (case zqkX => k_asm); (case zqkN => k_asm))
  k_with "CB" => ((case zqkT => k_asm); (case zqkK => first | exact rfl | assumption); (case zqkd => k_extra "ROOM"); (case zqku => k_extra "UNITS"))
  k_with "CE" => all_goals ((try ((with_reducible rename News _ _ _ _ => h9); simp only [List.nil_append, List.cons_append] at h9)); (try ((with_reducible rename Apart [] _ => h7); clear h7)); (try dsimp only [Option.getD_some, Option.getD_none]); (try k_sweep); (try k_fold))
  k_with "CZ" => all_goals ((try dsimp only [Option.getD_some, Option.getD_none]); (try k_sweep); (try k_fold))
  k_with "call builtin:len" => (k_here; (with_reducible show wpAny _ _ (call (Value.builtin "len") [Value.ref _]) _ _ _); k_dflt (refine' len_sym ?zqk1 ?zqk2 ?zqk3 ?_; (case zqk1 => k_asm); (case zqk2 => k_mem); (case zqk3 => k_extra "AR"); k_whole))
  k_with "getMethod ref" => (k_here; (with_reducible show wpAny _ _ (getMethod (Value.ref _) (PySem.Str.ofString "get") _) _ _ _); k_dflt (refine' get_method ?zqk1 ?zqk2 ?zqk3 ?_; (case zqk1 => k_asm); (case zqk2 => k_mem); (case zqk3 => with_reducible assumption); k_whole))
  k_with "call builtin:dict.get" => (k_here; (with_reducible show wpAny _ _ (call (Value.builtin "dict.get") [Value.ref _, Value.str _ _]) _ _ _); k_dflt (refine' get_call ?zqk0 ?zqk1 ?zqk2 ?zqk3 ?_; (case zqk1 => k_asm); (case zqk2 => k_mem); (case zqk3 => with_reducible assumption); (case zqk0 => with_reducible assumption); k_whole))
  k_with "LOCA" => first | exact LocArgs.nil | (refine' LocArgs.cons ?zqlk ?zqld ?zqlv ?zqlt; (case zqlk => kernel_rfl!); (case zqld => kernel_rfl); (case zqlv => first | rfl | assumption); (case zqlt => k_extra "LOCA"))
  k_with "eval Call" => (k_here; (with_reducible show wpAny _ _ (eval (Expr.Call (Expr.Name _ _) (Expr.Name _ _ :: _) [] _) _) _ _ _); first | ((with_reducible refine' callO_loc ?zqF ?zqX ?zqT ?zqe ?zqk ?zqa ?zqb ?zqc ?zql ?_); k_dflt ((case zqF => k_asm); (case zqX => k_asm); (case zqT => k_asm); (case zqa => exact rfl); (case zqb => kernel_rfl!); (case zqc => kernel_rfl); (case zqe => k_is); (case zqk => k_is); (case zql => k_extra "LOCA"); k_whole)) | ((with_reducible refine' callC_loc ?zqF ?zqX ?zqT ?zqe ?zqk ?zqa ?zqb ?zqc ?zql ?_); k_dflt ((case zqF => k_asm); (case zqX => k_asm); (case zqT => k_asm); (case zqa => exact rfl); (case zqb => kernel_rfl!); (case zqc => kernel_rfl); (case zqe => k_is); (case zqk => k_is); (case zql => k_extra "LOCA"); k_whole)))
  k_with "eval Attribute Name" => (k_here; (with_reducible refine' attrO_loc ?zqF ?zqv ?zqa ?zqb ?zqc ?_); k_dflt ((case zqF => k_asm); (case zqa => exact rfl); (case zqb => kernel_rfl!); (case zqc => kernel_rfl); (case zqv => first | rfl | assumption); k_whole))
  k_with "ite" => (k_here; first | (k_closed; first | ((with_reducible refine ite_pos ?zqk2 ?_); k_dflt (case zqk2 => decide)) | ((with_reducible refine ite_neg ?zqk2 ?_); k_dflt (case zqk2 => decide))) | (refine' ite_bf ?zqk1 ?_; (case zqk1 => first | assumption | exact decide_eq_false (by omega) | exact beq_eq_false_iff_ne.mpr (by omega))) | (refine' ite_bt ?zqk1 ?_; (case zqk1 => first | assumption | exact decide_eq_true (by omega) | exact beq_iff_eq.mpr (by omega))))
  k_with "call type:dict" => (k_here; (with_reducible show wpAny _ _ (call (Value.type "dict") [Value.ref _]) _ _ _); k_dflt (refine' dict_copyK ?zqF ?zqN ?zqb ?zqm ?zqD ?zql ?zqz ?_; (case zqF => k_asm); (case zqN => k_asm); (case zqb => exact Top.nolimit (by k_asm)); (case zqm => k_mem); (case zqD => with_reducible assumption); (case zql => with_reducible assumption); (case zqz => omega); k_whole); intro d' h' o' F' N' l1 lo' hd'; (try k_lt l1))
  k_with "eval Name" => (k_here; first | ((with_reducible refine' nameO_L ?zqF ?zqv ?_ ?zqa ?zqb ?zqc); k_dflt ((case zqF => k_asm); (case zqa => exact rfl); (case zqb => kernel_rfl!); (case zqc => kernel_rfl); (case zqv => first | rfl | assumption); k_whole)) | ((with_reducible refine' nameO_K ?zqF ?zqX ?zqT ?zqe ?_ ?zqa ?zqb ?zqc); k_dflt ((case zqF => k_asm); (case zqX => k_asm); (case zqT => k_asm); (case zqa => exact rfl); (case zqb => kernel_rfl!); (case zqc => kernel_rfl); (case zqe => k_is); k_whole)) | ((with_reducible refine' nameC_L ?zqF ?zqv ?_ ?zqa ?zqb ?zqc); k_dflt ((case zqF => k_asm); (case zqa => exact rfl); (case zqb => kernel_rfl!); (case zqc => kernel_rfl); (case zqv => first | rfl | assumption); k_whole)) | ((with_reducible refine' nameC_K ?zqF ?zqX ?zqT ?zqe ?_ ?zqa ?zqb ?zqc); k_dflt ((case zqF => k_asm); (case zqX => k_asm); (case zqT => k_asm); (case zqa => exact rfl); (case zqb => kernel_rfl!); (case zqc => kernel_rfl); (case zqe => k_is); k_whole)))
  trivial
theorem kwL9_1 : True := by
  k_with "SUB" => first | exact sub_nil | ((with_reducible refine' sub_cons ?zqsm ?_); (case zqsm => k_mem); k_extra "SUB") | (refine sub_app ?_ ?_; (focus k_extra "SUB"); k_extra "SUB") | k_extra "SUT" | (intro p9 hp9; repeat' (first | exact hp9 | refine List.mem_cons_of_mem _ ?_ | exact List.mem_append.mpr (Or.inl hp9) | refine List.mem_append.mpr (Or.inr ?_)))
  k_with "OWN" => (intro p9 hp9; repeat' (first | exact hp9 | refine List.mem_cons_of_mem _ ?_ | exact List.mem_append.mpr (Or.inl hp9) | refine List.mem_append.mpr (Or.inr ?_)))
  k_with "ALL" => ((rename AllNe _ _ => hAn9); first | (refine AllNe.all ?_; exact hAn9) | (refine fun p hp => AllNe.all hAn9 p ?_; repeat' (first | exact hp | exact List.mem_append.mpr (Or.inl hp) | exact List.mem_append.mpr (Or.inr hp) | refine List.mem_cons_of_mem _ ?_)) | (clear hAn9; k_all))
  k_with "eval Name" => (k_here; (with_reducible show wpAny _ _ (eval (Expr.Name _ _) (envOfC _ _ _ _ _)) _ _ _); k_dflt (refine' ldLoc ?zqF ?zqv ?_ ?zqa ?zqb ?zqc; (case zqa => rfl); (case zqb => rfl); (case zqc => decide); (case zqF => k_asm); (case zqv => assumption); k_whole))
  trivial
theorem holds.tw8944343764007091065 : True := True.intro
theorem holds.tw8709608639225018423 : True := True.intro
theorem holds.tw10876536743886354276 : True := True.intro
theorem holds.tw15654153127513851752 : True := True.intro
theorem holds.tw16075053759526825020 : True := True.intro
theorem holds.tw8260078842695283502 : True := True.intro
theorem holds.tw7998808928282977731 : True := True.intro
theorem holds.tw6270666701200070447 : True := True.intro
theorem holds.tw1823548288077909227 : True := True.intro
theorem holds.tw10280545108713110612 : True := True.intro
theorem holds.tw18263738317455877889 : True := True.intro
theorem holds.tw18145382148040430673 : True := True.intro
theorem holds.tw14012497318314112844 : True := True.intro
theorem holds.tw3529921767576855348 : True := True.intro
theorem holds.tw8551410553514715252 : True := True.intro
theorem holds.tw1748184903109754316 : True := True.intro
theorem holds.tw15044018224587446200 : True := True.intro
theorem holds.tw4949047195023096438 : True := True.intro
theorem holds.tw15679414594044027071 : True := True.intro
theorem holds.tw17076291190057227869 : True := True.intro
theorem holds.tw8239031253751857358 : True := True.intro
theorem holds.tw4876135695594978501 : True := True.intro
theorem holds.tw6606875086121380550 : True := True.intro
theorem holds.tw11759793716441912868 : True := True.intro
theorem holds.tw5959074840488112208 : True := True.intro
theorem holds.tw12160635655254385198 : True := True.intro
theorem holds.tw185807328385624810 : True := True.intro
theorem holds.tw4399152324972305773 : True := True.intro
theorem holds.tw4521932981997962074 : True := True.intro
theorem holds.tw14062913937729191461 : True := True.intro
theorem holds.tw8086972369959518483 : True := True.intro
theorem holds.tw4496467784121089108 : True := True.intro
theorem holds.tw6278366128872770721 : True := True.intro
theorem holds.tw3381435865837020940 : True := True.intro
theorem holds.tw13060694101666355058 : True := True.intro
theorem holds.tw10176819019813888522 : True := True.intro
theorem holds.tw9784731065822230439 : True := True.intro
theorem holds.tw5923573193019433623 : True := True.intro
theorem holds.tw8764645870556796587 : True := True.intro
theorem holds.tw8393340031374782525 : True := True.intro
theorem holds.tw2207817973478938216 : True := True.intro
theorem holds.tw12947342387834907416 : True := True.intro
theorem holds.tw1986877004247180340 : True := True.intro
theorem holds.tw1357696155403014326 : True := True.intro
theorem holds.tw16532224993992427823 : True := True.intro
theorem holds.tw960582308587345451 : True := True.intro
theorem holds.tw13602253286356535353 : True := True.intro
theorem holds.tw632647553328814510 : True := True.intro
theorem holds.tw10634055019105834221 : True := True.intro
theorem holds.tw13942211991455542721 : True := True.intro
theorem holds.tw9408521175777228426 : True := True.intro
theorem holds.tw13606275585875862381 : True := True.intro
theorem holds.tw14742164162203671135 : True := True.intro
theorem holds.tw11311999394344832113 : True := True.intro
theorem holds.tw3117193011312037209 : True := True.intro
theorem holds.tw9890372494799421562 : True := True.intro
theorem holds.tw16569799976186059295 : True := True.intro
theorem holds.tw7221694943082674061 : True := True.intro
theorem holds.tw1577146010547175755 : True := True.intro
theorem holds.tw5948040445239067262 : True := True.intro
theorem holds.tw18119886095736687351 : True := True.intro
theorem holds.tw7365562674294520451 : True := True.intro
theorem holds.tw3378624336152846145 : True := True.intro
theorem holds.tw10269081998898121243 : True := True.intro
theorem holds.tw4320952357017371039 : True := True.intro
theorem holds.tw14666957617077880877 : True := True.intro
theorem holds.tw17822619038779606285 : True := True.intro
theorem holds.tw11635385377250757057 : True := True.intro
theorem holds.tw5990180441110522300 : True := True.intro
theorem holds.tw4565384855192621650 : True := True.intro
theorem holds.tw12542415522573167287 : True := True.intro
theorem holds.tw6216033271563703469 : True := True.intro
theorem holds.tw14375228850674640113 : True := True.intro
theorem holds.tw1508545211966159021 : True := True.intro
theorem holds.tw12322914241283428633 : True := True.intro
theorem holds.tw8943767207682116370 : True := True.intro
theorem holds.tw9569093901706499007 : True := True.intro
theorem holds.tw4137054072099604216 : True := True.intro
theorem holds.tw7943873644019274615 : True := True.intro
theorem holds.tw8403075241119356948 : True := True.intro
theorem holds.tw2929439407932294337 : True := True.intro
theorem holds.tw16034146489351607153 : True := True.intro
theorem holds.tw1882270145967814011 : True := True.intro
theorem holds.tw949623864930693503 : True := True.intro
theorem holds.tw17779192219718171531 : True := True.intro
theorem holds.tw150268843892594924 : True := True.intro
theorem holds.tw16898140867199733807 : True := True.intro
theorem holds.tw15737458098272848843 : True := True.intro
theorem holds.tw438103235379743935 : True := True.intro
theorem holds.tw10807475332292939257 : True := True.intro
theorem holds.tw13130249910395747862 : True := True.intro
theorem holds.tw11750193621415288269 : True := True.intro
theorem holds.tw17254660705983429885 : True := True.intro
theorem holds.tw12135579543755162760 : True := True.intro
theorem holds.tw5350216910946226995 : True := True.intro
theorem holds.tw5599412692616142259 : True := True.intro
theorem holds.tw1810054013080096641 : True := True.intro
theorem holds.tw2395783193375807797 : True := True.intro
theorem holds.tw4837283352154931363 : True := True.intro
theorem holds.tw17631178891982236634 : True := True.intro
theorem holds.tw1446027475299390936 : True := True.intro
theorem holds.tw17417429595627488627 : True := True.intro
theorem holds.tw8451429660923938374 : True := True.intro
theorem holds.tw14635519672683665818 : True := True.intro
theorem holds.tw2298022174073133013 : True := True.intro
theorem holds.tw2661161477798328453 : True := True.intro
theorem holds.tw9160814584890018001 : True := True.intro
theorem holds.tw17087466662150396210 : True := True.intro
theorem holds.tw16157313489029771745 : True := True.intro
theorem holds.tw9930548314228155742 : True := True.intro
theorem holds.tw3864012138097595758 : True := True.intro
theorem holds.tw9486143321106344294 : True := True.intro
theorem holds.tw13334661261001831826 : True := True.intro
theorem holds.tw7154447938429058438 : True := True.intro
theorem holds.tw15464432741802594518 : True := True.intro
theorem holds.tw17453241218497372113 : True := True.intro
theorem holds.tw16315053957116525436 : True := True.intro
theorem holds.tw3579776383272448420 : True := True.intro
theorem holds.tw8168356752963748851 : True := True.intro
theorem holds.tw15773771547523477324 : True := True.intro
theorem holds.tw1688397885654501378 : True := True.intro
theorem holds.tw17301085495529702629 : True := True.intro
theorem holds.tw16141144775947785660 : True := True.intro
theorem holds.tw7798976556582896058 : True := True.intro
theorem holds.tw8115153917610635543 : True := True.intro
theorem holds.tw11223116819087169764 : True := True.intro
theorem holds.tw2322420239649074934 : True := True.intro
theorem holds.tw9157471666820141079 : True := True.intro
theorem holds.tw15213160351066311221 : True := True.intro
theorem holds.tw3068192142570097250 : True := True.intro
theorem holds.tw8323465864499181419 : True := True.intro
theorem holds.tw2693575011054576931 : True := True.intro
theorem holds.tw8827755016177155863 : True := True.intro
theorem holds.tw13306687922162142720 : True := True.intro
theorem holds.tw10540872416556608339 : True := True.intro
theorem holds.tw14400433609042604536 : True := True.intro
theorem holds.tw8229771903181695673 : True := True.intro
theorem holds.tw17955251653903534588 : True := True.intro
theorem holds.tw3083665863380995925 : True := True.intro
theorem holds.tw10238092577321643331 : True := True.intro
theorem holds.tw17177450906650391178 : True := True.intro
theorem holds.tw17629714610472425511 : True := True.intro
theorem holds.tw17560821836578072369 : True := True.intro
theorem holds.tw3912065897935574273 : True := True.intro
theorem holds.tw6330134614895140133 : True := True.intro
theorem holds.tw14064534554856164141 : True := True.intro
theorem holds.tw4302478151189881795 : True := True.intro
theorem holds.tw15969937429085165904 : True := True.intro
theorem holds.tw2667925813562934949 : True := True.intro
theorem holds.tw5588498093969417903 : True := True.intro
theorem holds.tw3566445408084065983 : True := True.intro
theorem holds.tw14571696787620697854 : True := True.intro
theorem holds.tw15653146226815964750 : True := True.intro
theorem holds.tw10973056549479156102 : True := True.intro
theorem holds.tw16760418933842767799 : True := True.intro
theorem holds.tw18224010420261798391 : True := True.intro
theorem holds.tw17516818768086975123 : True := True.intro
theorem holds.tw5145322182839607373 : True := True.intro
theorem holds.tw14947864908287233490 : True := True.intro
theorem holds.tw12004703523718567385 : True := True.intro
theorem holds.tw6072511530176384962 : True := True.intro
theorem holds.tw5031978486770369989 : True := True.intro
theorem holds.tw8454650750101055009 : True := True.intro
theorem holds.tw11413208387583891290 : True := True.intro
theorem holds.tw15962101105364567198 : True := True.intro
theorem holds.tw4954732016240277505 : True := True.intro
theorem holds.tw3081346186701454755 : True := True.intro
theorem holds.tw8035951141280138642 : True := True.intro
theorem holds.tw13945929957867325323 : True := True.intro
theorem holds.tw2296293446034493066 : True := True.intro
theorem holds.tw15942494369296127945 : True := True.intro
theorem holds.tw12004910477815969792 : True := True.intro
theorem holds.tw10859938921441162988 : True := True.intro
theorem holds.tw4529002996912422141 : True := True.intro
theorem holds.tw10066566674380323332 : True := True.intro
theorem holds.tw5898628582698610718 : True := True.intro
theorem holds.tw16887932952891968693 : True := True.intro
theorem holds.tw7122917452565745793 : True := True.intro
theorem holds.tw1974762919298152056 : True := True.intro
theorem holds.tw16818068004342704306 : True := True.intro
theorem holds.tw9039863090174473464 : True := True.intro
theorem holds.tw17294395744611713098 : True := True.intro
theorem holds.tw9259533211598610082 : True := True.intro
theorem holds.tw7129523546110730894 : True := True.intro
theorem holds.tw820486334897136409 : True := True.intro
theorem holds.tw6545924791901025671 : True := True.intro
theorem holds.tw8102643725754146565 : True := True.intro
theorem holds.tw9250495785965993271 : True := True.intro
theorem holds.tw13153363017490239224 : True := True.intro
theorem holds.tw4252685499439207924 : True := True.intro
theorem holds.tw341249449185904685 : True := True.intro
theorem holds.tw12629177860411813126 : True := True.intro
theorem holds.tw3964553439336064567 : True := True.intro
theorem holds.tw10322258209740374209 : True := True.intro
theorem holds.tw6307330118970589470 : True := True.intro
theorem holds.tw9855210162650666830 : True := True.intro
theorem holds.tw8324913547053779211 : True := True.intro
theorem holds.tw11319453509113102234 : True := True.intro
theorem holds.tw1382383790286775375 : True := True.intro
theorem holds.tw7944191787301449481 : True := True.intro
theorem holds.tw4432577473406786859 : True := True.intro
theorem holds.tw8789113547377566482 : True := True.intro
theorem holds.tw4475622257904601326 : True := True.intro
theorem holds.tw14786868411472786527 : True := True.intro
theorem holds.tw10675174832548182787 : True := True.intro
theorem holds.tw9462340624215136286 : True := True.intro
theorem holds.tw10846422607668537096 : True := True.intro
theorem holds.tw4043779546988386903 : True := True.intro
theorem holds.tw3339025504875072537 : True := True.intro
theorem holds.tw17305823854243098232 : True := True.intro
theorem holds.tw11237496202790982473 : True := True.intro
theorem holds.tw14387954076880322906 : True := True.intro
theorem holds.tw1714096750540956960 : True := True.intro
theorem holds.tw4247038368700228457 : True := True.intro
theorem holds.tw2562329033357795767 : True := True.intro
theorem holds.tw17094759248423572775 : True := True.intro
theorem holds.tw9573620641467853373 : True := True.intro
theorem holds.tw15228004617427520810 : True := True.intro
theorem holds.tw13564983018704479910 : True := True.intro
theorem holds.tw15670438280644718882 : True := True.intro
theorem holds.tw1621136399060944247 : True := True.intro
theorem holds.tw4374827463496512255 : True := True.intro
theorem holds.tw3886397583452890388 : True := True.intro
theorem holds.tw17845740096274255462 : True := True.intro
theorem holds.tw8991559151991917937 : True := True.intro
theorem holds.tw17642598502550569490 : True := True.intro
theorem holds.tw2936799095737714382 : True := True.intro
theorem holds.tw3579648750931130658 : True := True.intro
theorem holds.tw17274456146704370614 : True := True.intro
theorem holds.tw12584058235822683084 : True := True.intro
theorem holds.tw12354433232887552844 : True := True.intro
theorem holds.tw5565848844497943877 : True := True.intro
theorem holds.tw13384883100587833847 : True := True.intro
theorem holds.tw6417658556168297412 : True := True.intro
theorem holds.tw9327718836232418737 : True := True.intro
theorem holds.tw2823412116039181319 : True := True.intro
theorem holds.tw8277820557490507997 : True := True.intro
theorem holds.tw10531532615022067580 : True := True.intro
theorem holds.tw10274680400919065884 : True := True.intro
theorem holds.tw6396523623945614605 : True := True.intro
theorem holds.tw1552857426587298226 : True := True.intro
theorem holds.tw11040456503202229835 : True := True.intro
theorem holds.tw142377125942736700 : True := True.intro
theorem holds.tw17500814259130102135 : True := True.intro
theorem holds.tw17591727778206626035 : True := True.intro
theorem holds.tw16239030619513480838 : True := True.intro
theorem holds.tw11866763835798034582 : True := True.intro
theorem holds.tw1562249421467397710 : True := True.intro
theorem holds.tw16189116650847989039 : True := True.intro
theorem holds.tw1095465085569150570 : True := True.intro
theorem holds.tw12039203186867382747 : True := True.intro
theorem holds.tw16492970923048177823 : True := True.intro
theorem holds.tw15216533652830951187 : True := True.intro
theorem holds.tw10520202591518659360 : True := True.intro
theorem holds.tw7877780744568003191 : True := True.intro
theorem holds.tw2090353487450580582 : True := True.intro
theorem holds.tw13208604148985916543 : True := True.intro
theorem holds.tw13002855754428957212 : True := True.intro
theorem holds.tw10202850474951982929 : True := True.intro
theorem holds.tw2003794701753356343 : True := True.intro
theorem holds.tw3594228041056560270 : True := True.intro
theorem holds.tw12306811582311103309 : True := True.intro
theorem holds.tw8778671856527934898 : True := True.intro
theorem holds.tw1092734292537931370 : True := True.intro
theorem holds.tw685634667276709000 : True := True.intro
theorem holds.tw10255086910947774711 : True := True.intro
theorem holds.tw7960950308347656791 : True := True.intro
theorem holds.tw14607219995997415800 : True := True.intro
theorem holds.tw13526204058760582534 : True := True.intro
theorem holds.tw5915465848944024539 : True := True.intro
theorem holds.tw4695128735345963622 : True := True.intro
theorem holds.tw3259964661353284909 : True := True.intro
theorem holds.tw12098404996450287289 : True := True.intro
theorem holds.tw4648945120126745877 : True := True.intro
theorem holds.tw187104208977503339 : True := True.intro
theorem holds.tw8351548024695214574 : True := True.intro
theorem holds.tw13926404443759844560 : True := True.intro
theorem holds.tw2045681113551912190 : True := True.intro
theorem holds.tw457036756085613805 : True := True.intro
theorem holds.tw9072656965561520583 : True := True.intro
theorem holds.tw4286360187039589740 : True := True.intro
theorem holds.tw5006882278849481289 : True := True.intro
theorem holds.tw4132201380793018340 : True := True.intro
theorem holds.tw2980642449514264586 : True := True.intro
theorem holds.tw8995863869359571168 : True := True.intro
theorem holds.tw7516632072315021061 : True := True.intro
theorem holds.tw10028576996824322293 : True := True.intro
theorem holds.tw12633084752571091873 : True := True.intro
theorem holds.tw15483027778438257147 : True := True.intro
theorem holds.tw3279077582325829838 : True := True.intro
theorem holds.tw7399101569421298396 : True := True.intro
theorem holds.tw8105830805119860317 : True := True.intro
theorem holds.tw10447927361281507451 : True := True.intro
theorem holds.tw4500180452004054980 : True := True.intro
theorem holds.tw11111472982789046935 : True := True.intro
theorem holds.tw8186637812631136355 : True := True.intro
theorem holds.tw17988741175759917587 : True := True.intro
theorem holds.tw12894555341316225627 : True := True.intro
theorem holds.tw1154197751520073318 : True := True.intro
theorem holds.tw9232459349045140238 : True := True.intro
theorem holds.tw2041457743892144894 : True := True.intro
theorem holds.tw5300967816669126424 : True := True.intro
theorem holds.tw14481039436429509627 : True := True.intro
theorem holds.tw16451975095625300501 : True := True.intro
theorem holds.tw14083959995102712966 : True := True.intro
theorem holds.tw6786515118028813453 : True := True.intro
theorem holds.tw2946744036017948005 : True := True.intro
theorem holds.tw7882509031788189477 : True := True.intro
theorem holds.tw3906943341852370832 : True := True.intro
theorem holds.tw10494946348260405530 : True := True.intro
theorem holds.tw16478504620199068264 : True := True.intro
theorem holds.tw1389151227800987198 : True := True.intro
theorem holds.tw4636335402390110268 : True := True.intro
theorem holds.tw11379536335273661636 : True := True.intro
theorem holds.tw9712817358965380444 : True := True.intro
theorem holds.tw5020977762268055686 : True := True.intro
theorem holds.tw8267156744941353195 : True := True.intro
theorem holds.tw13222035019132090745 : True := True.intro
theorem holds.tw759334954848157859 : True := True.intro
theorem holds.tw17856180979147524769 : True := True.intro
theorem holds.tw15733542881966949079 : True := True.intro
theorem holds.tw8664197181124272861 : True := True.intro
theorem holds.tw17647985033660283594 : True := True.intro
theorem holds.tw15573729904360925794 : True := True.intro
theorem holds.tw9370115536473471133 : True := True.intro
theorem holds.tw11968577826497805164 : True := True.intro
theorem holds.tw8326223695736924558 : True := True.intro
theorem holds.tw4753448620645791293 : True := True.intro
theorem holds.tw1349225773494744244 : True := True.intro
theorem holds.tw431214659972026318 : True := True.intro
theorem holds.tw8336353537208430648 : True := True.intro
theorem holds.tw16286308178466712102 : True := True.intro
theorem holds.tw4381346726385406224 : True := True.intro
theorem holds.tw863987743001093631 : True := True.intro
theorem holds.tw4989695622661515502 : True := True.intro
theorem holds.tw12179329788657368842 : True := True.intro
theorem holds.tw6987646167637998250 : True := True.intro
theorem holds.tw8924664554198228455 : True := True.intro
theorem holds.tw5768289875352899849 : True := True.intro
theorem holds.tw2331653303103277471 : True := True.intro
theorem holds.tw8575535491628544125 : True := True.intro
theorem holds.tw16740147826971877517 : True := True.intro
theorem holds.tw3101148707280403237 : True := True.intro
theorem holds.tw17476224472650253806 : True := True.intro
theorem holds.tw3050561863661609479 : True := True.intro
theorem holds.tw4157549862880800291 : True := True.intro
theorem holds.tw11566098377363298415 : True := True.intro
theorem holds.tw10843207457187830352 : True := True.intro
theorem holds.tw1639197193820686003 : True := True.intro
theorem holds.tw8070350036930755802 : True := True.intro
theorem holds.tw4046193847619289583 : True := True.intro
theorem holds.tw11210861575573996130 : True := True.intro
theorem holds.tw5282283922864298156 : True := True.intro
theorem holds.tw16908686848171061149 : True := True.intro
theorem holds.tw15987345220168432620 : True := True.intro
theorem holds.tw7400771686186127474 : True := True.intro
theorem holds.tw3930379177928381544 : True := True.intro
theorem holds.tw11937027079205856637 : True := True.intro
theorem holds.tw14404905868111484630 : True := True.intro
theorem holds.tw15663057623668237757 : True := True.intro
theorem holds.tw16035096773351161327 : True := True.intro
theorem holds.tw99148262030102190 : True := True.intro
theorem holds.tw9367411864662104596 : True := True.intro
theorem holds.tw12095597400677081514 : True := True.intro
theorem holds.tw5606170894147618297 : True := True.intro
theorem holds.tw154871700347349385 : True := True.intro
theorem holds.tw14012504350828624960 : True := True.intro
theorem holds.tw6305404595935261976 : True := True.intro
theorem holds.tw3937861406571306486 : True := True.intro
theorem holds.tw10698829266838348154 : True := True.intro
theorem holds.tw11569915684508697678 : True := True.intro
theorem holds.tw10595842591828190984 : True := True.intro
theorem holds.tw9160933379109621080 : True := True.intro
theorem holds.tw5015485144833937494 : True := True.intro
theorem holds.tw8080489487961928221 : True := True.intro
theorem holds.tw8365977135183407358 : True := True.intro
theorem holds.tw12158838097934144204 : True := True.intro
theorem holds.tw17154429820679262023 : True := True.intro
theorem holds.tw14085268106739128817 : True := True.intro
theorem holds.tw7398792987819827216 : True := True.intro
theorem holds.tw9146587202723764964 : True := True.intro
theorem holds.tw3589964763223657672 : True := True.intro
theorem holds.tw1906216828905148153 : True := True.intro
theorem holds.tw5252246860307943348 : True := True.intro
theorem holds.tw98196739984318054 : True := True.intro
theorem holds.tw2026074157514601029 : True := True.intro
theorem holds.tw4480811336153992742 : True := True.intro
theorem holds.tw5747684920607356772 : True := True.intro
theorem holds.tw3914980098763439061 : True := True.intro
theorem holds.tw2511256036297951264 : True := True.intro
theorem holds.tw9638990691586225099 : True := True.intro
theorem holds.tw7580357766596436714 : True := True.intro
theorem holds.tw7442186320969616419 : True := True.intro
theorem holds.tw17714467908841036005 : True := True.intro
theorem holds.tw2422663375537807432 : True := True.intro
theorem holds.tw14149781006570564392 : True := True.intro
theorem holds.tw8006095370074002437 : True := True.intro
theorem holds.tw1316056555746827224 : True := True.intro
theorem holds.tw9518972631687950247 : True := True.intro
theorem holds.tw5078402968320093544 : True := True.intro
theorem holds.tw14751579383510745608 : True := True.intro
theorem holds.tw10491065262344570346 : True := True.intro
theorem holds.tw13980644296350529377 : True := True.intro
theorem holds.tw13069951337775981229 : True := True.intro
theorem holds.tw722385531181317529 : True := True.intro
theorem holds.tw12468101337765408714 : True := True.intro
theorem holds.tw7145057240379410032 : True := True.intro
theorem holds.tw1466284255255076664 : True := True.intro
theorem holds.tw7405762614669717487 : True := True.intro
theorem holds.tw2406459529592591507 : True := True.intro
theorem holds.tw15203487316939043196 : True := True.intro
theorem holds.tw7258431392514884226 : True := True.intro
theorem holds.tw12089446637012607182 : True := True.intro
theorem holds.tw11818566221774970091 : True := True.intro
theorem holds.tw6816380694822836728 : True := True.intro
theorem holds.tw10645105620128953169 : True := True.intro
theorem holds.tw16878984735049331645 : True := True.intro
theorem holds.tw10828986214106111531 : True := True.intro
theorem holds.tw12883100574787851859 : True := True.intro
theorem holds.tw2490583276235294983 : True := True.intro
theorem holds.tw13563289320671947111 : True := True.intro
theorem holds.tw9284948610034456067 : True := True.intro
theorem holds.tw14533596452844920548 : True := True.intro
theorem holds.tw2448847960820234738 : True := True.intro
theorem holds.tw15919173128261314395 : True := True.intro
theorem holds.tw1876284267304334591 : True := True.intro
theorem holds.tw3591643451295285226 : True := True.intro
theorem holds.tw2796529661445839640 : True := True.intro
theorem holds.tw8999148759028348254 : True := True.intro
theorem holds.tw11322816463052944642 : True := True.intro
theorem holds.tw6871585250140865760 : True := True.intro
theorem holds.tw9645710685874896286 : True := True.intro
theorem holds.tw151567797773009622 : True := True.intro
theorem holds.tw11896979934692212325 : True := True.intro
theorem holds.tw7810582327123544015 : True := True.intro
theorem holds.tw2766847245526771718 : True := True.intro
theorem holds.tw7058599786907716777 : True := True.intro
theorem holds.tw3093010850272755244 : True := True.intro
theorem holds.tw16900590462404453081 : True := True.intro
theorem holds.tw7398177500901678427 : True := True.intro
theorem holds.tw5857794014393010482 : True := True.intro
theorem holds.tw17585196194217108160 : True := True.intro
theorem holds.tw10061326939861387809 : True := True.intro
theorem holds.tw16500857126356320474 : True := True.intro
theorem holds.tw8217837808669207805 : True := True.intro
theorem holds.tw6848487089051665640 : True := True.intro
theorem holds.tw6118206324766035986 : True := True.intro
theorem holds.tw8844102623358338796 : True := True.intro
theorem holds.tw16526392495010931895 : True := True.intro
theorem holds.tw14537686803440442423 : True := True.intro
theorem holds.tw13341946137322399123 : True := True.intro
theorem holds.tw3349518531870832243 : True := True.intro
theorem holds.tw9309047703646887916 : True := True.intro
theorem holds.tw16762735861678686087 : True := True.intro
theorem holds.tw5887078386916838634 : True := True.intro
theorem holds.tw854715265852234644 : True := True.intro
theorem holds.tw4796666493748621973 : True := True.intro
theorem holds.tw12736823529576279204 : True := True.intro
theorem holds.tw12370703938092414502 : True := True.intro
theorem holds.tw609593979267148766 : True := True.intro
theorem holds.tw7942442253511216057 : True := True.intro
theorem holds.tw14869886272290788767 : True := True.intro
theorem holds.tw15985840036639034899 : True := True.intro
theorem holds.tw18119562065370568691 : True := True.intro
theorem holds.tw11037822914523747621 : True := True.intro
theorem holds.tw8930301468638573109 : True := True.intro
theorem holds.tw13934561362821362623 : True := True.intro
theorem holds.tw11612728935029869629 : True := True.intro
theorem holds.tw9523873602847724419 : True := True.intro
theorem holds.tw16606521154662909651 : True := True.intro
theorem holds.tw7873036012977236159 : True := True.intro
theorem holds.tw2160012875989923789 : True := True.intro
theorem holds.tw13338651292558784369 : True := True.intro
theorem holds.tw4516983988559860221 : True := True.intro
theorem holds.tw16179787414501680475 : True := True.intro
theorem holds.tw5583946556138506119 : True := True.intro
theorem holds.tw249549322783861432 : True := True.intro
theorem holds.tw14691085348537605332 : True := True.intro
theorem holds.tw13995109926203733070 : True := True.intro
theorem holds.tw2682973687022302978 : True := True.intro
theorem holds.tw6424660084863691381 : True := True.intro
theorem holds.tw5225467491883748592 : True := True.intro
theorem holds.tw2538446115941346844 : True := True.intro
theorem holds.tw915018914566706432 : True := True.intro
theorem holds.tw6159885450047824267 : True := True.intro
theorem holds.tw1272921112123746405 : True := True.intro
theorem holds.tw8571184235532366510 : True := True.intro
theorem holds.tw15027879205694222834 : True := True.intro
theorem holds.tw1118671588950128205 : True := True.intro
theorem holds.tw6545324650690627985 : True := True.intro
theorem holds.tw7791430327242384495 : True := True.intro
theorem holds.tw18193256452927958525 : True := True.intro
theorem holds.tw14314133134477209284 : True := True.intro
theorem holds.tw6549915499844065949 : True := True.intro
theorem holds.tw3811385743445658432 : True := True.intro
theorem holds.tw11775407622660791982 : True := True.intro
theorem holds.tw10726778698580467152 : True := True.intro
theorem holds.tw6357344898813262543 : True := True.intro
theorem holds.tw18148179280279774915 : True := True.intro
theorem holds.tw2335221107431800076 : True := True.intro
theorem holds.tw12540800736699631050 : True := True.intro
theorem holds.tw8684541073956307770 : True := True.intro
theorem holds.tw96072713605637463 : True := True.intro
theorem holds.tw7033360832409044607 : True := True.intro
theorem holds.tw9140063382869304120 : True := True.intro
theorem holds.tw6852311561904566080 : True := True.intro
theorem holds.tw6489310206099298910 : True := True.intro
theorem holds.tw2835070418663256649 : True := True.intro
theorem holds.tw9260842090827677427 : True := True.intro
theorem holds.tw1311399786705062619 : True := True.intro
theorem holds.tw16461013251600362008 : True := True.intro
theorem holds.tw14856189802965030758 : True := True.intro
theorem holds.tw2972900019843275892 : True := True.intro
theorem holds.tw9204624228502610083 : True := True.intro
theorem holds.tw15477653585598255317 : True := True.intro
theorem holds.tw1066124834946963746 : True := True.intro
theorem holds.tw16049930973857864354 : True := True.intro
theorem holds.tw18137404814466565647 : True := True.intro
theorem holds.tw10637851664137882224 : True := True.intro
theorem holds.tw9541374612494854641 : True := True.intro
theorem holds.tw1477864382951527211 : True := True.intro
theorem holds.tw14642846902033847964 : True := True.intro
theorem holds.tw5698002777990276889 : True := True.intro
theorem holds.tw14820496819874337416 : True := True.intro
theorem holds.tw12688729033689436754 : True := True.intro
theorem holds.tw7074641181814816541 : True := True.intro
theorem holds.tw8087799500789234286 : True := True.intro
theorem holds.tw13281364814482169325 : True := True.intro
theorem holds.tw18348608232412713582 : True := True.intro
theorem holds.tw3325302716571603560 : True := True.intro
theorem holds.tw3937267528351423324 : True := True.intro
theorem holds.tw17698789649397450121 : True := True.intro
theorem holds.tw14521024918404927360 : True := True.intro
theorem holds.tw18366657443248667141 : True := True.intro
theorem holds.tw820627826665183454 : True := True.intro
theorem holds.tw13200177327426563521 : True := True.intro
theorem holds.tw5016061194280584464 : True := True.intro
theorem holds.tw10954607271099289585 : True := True.intro
theorem holds.tw8276148420849259419 : True := True.intro
theorem holds.tw18428999135246889709 : True := True.intro
theorem holds.tw12941468149822085856 : True := True.intro
theorem holds.tw138917058343750897 : True := True.intro
theorem holds.tw11899092608841805274 : True := True.intro
theorem holds.tw15296638952792297585 : True := True.intro
theorem holds.tw10705761992013847755 : True := True.intro
theorem holds.tw298297018594106725 : True := True.intro
theorem holds.tw17836369818011005632 : True := True.intro
theorem holds.tw9349497639472619588 : True := True.intro
theorem holds.tw13306226422529918579 : True := True.intro
theorem holds.tw12056596633878991817 : True := True.intro
theorem holds.tw3198498235788789335 : True := True.intro
theorem holds.tw4485590747672999114 : True := True.intro
theorem holds.tw3969078344035082030 : True := True.intro
theorem holds.tw10953125311028157021 : True := True.intro
theorem holds.tw12091882185175152326 : True := True.intro
theorem holds.tw10840139340582571922 : True := True.intro
theorem holds.tw2167384251425162797 : True := True.intro
theorem holds.tw14027143162585244968 : True := True.intro
theorem holds.tw11822188140940861840 : True := True.intro
theorem holds.tw4853776891905718434 : True := True.intro
theorem holds.tw13219762378693318442 : True := True.intro
theorem holds.tw17410980318550716163 : True := True.intro
theorem holds.tw5857869478962280401 : True := True.intro
theorem holds.tw8370971151990252235 : True := True.intro
theorem holds.tw2451063411067222376 : True := True.intro
theorem holds.tw9458989268892848673 : True := True.intro
theorem holds.tw1672651397029140864 : True := True.intro
theorem holds.tw14924508530028286861 : True := True.intro
theorem holds.tw4071159065629566091 : True := True.intro
theorem holds.tw14432740918813763817 : True := True.intro
theorem holds.tw15815842588268232306 : True := True.intro
theorem holds.tw4397353207691548035 : True := True.intro
theorem holds.tw8440079175239025714 : True := True.intro
theorem holds.tw414146962427189552 : True := True.intro
theorem holds.tw1213666046027356511 : True := True.intro
theorem holds.tw12788872388335264594 : True := True.intro
theorem holds.tw13370180491053348 : True := True.intro
theorem holds.tw12084871131945615253 : True := True.intro
theorem holds.tw18374689057720224539 : True := True.intro
theorem holds.tw6027180799015181879 : True := True.intro
theorem holds.tw9107170298555381705 : True := True.intro
theorem holds.tw17180457848445815676 : True := True.intro
theorem holds.tw4988333648953938256 : True := True.intro
theorem holds.tw10981351503976158137 : True := True.intro
theorem holds.tw10587580826675096554 : True := True.intro
theorem holds.tw8501281891715751146 : True := True.intro
theorem holds.tw4077311611012620791 : True := True.intro
theorem holds.tw6077952519532572301 : True := True.intro
theorem holds.tw6987649320729488474 : True := True.intro
theorem holds.tw17779774989671706653 : True := True.intro
theorem holds.tw2781561513384061212 : True := True.intro
theorem holds.tw11408340709373832527 : True := True.intro
theorem holds.tw10576265454180977796 : True := True.intro
theorem holds.tw4702539438339769474 : True := True.intro
theorem holds.tw11284957654470035344 : True := True.intro
theorem holds.tw3184581556216392744 : True := True.intro
theorem holds.tw5619803957841784048 : True := True.intro
theorem holds.tw7072470231402172264 : True := True.intro
theorem holds.tw13108245259352980691 : True := True.intro
theorem holds.tw7766415108573184305 : True := True.intro
theorem holds.tw16260029586006496120 : True := True.intro
theorem holds.tw18228655803557992608 : True := True.intro
theorem holds.tw14083834280242248106 : True := True.intro
theorem holds.tw244668840739839672 : True := True.intro
theorem holds.tw18306687941130998258 : True := True.intro
theorem holds.tw303617358959260456 : True := True.intro
theorem holds.tw1692041494862269998 : True := True.intro
theorem holds.tw8143335708233088440 : True := True.intro
theorem holds.tw14015465597193498493 : True := True.intro
theorem holds.tw8583004682187828996 : True := True.intro
theorem holds.tw13651502964188933756 : True := True.intro
theorem holds.tw15433894429930974654 : True := True.intro
theorem holds.tw3765845486045053717 : True := True.intro
theorem holds.tw11188634580013471280 : True := True.intro
theorem holds.tw1032644102275906610 : True := True.intro
theorem holds.tw5981487413272766262 : True := True.intro
theorem holds.tw9825822386377846996 : True := True.intro
theorem holds.tw7119377499074729706 : True := True.intro
theorem holds.tw17751544043737166181 : True := True.intro
theorem holds.tw11252122248351282842 : True := True.intro
theorem holds.tw7753079526450916859 : True := True.intro
theorem holds.tw10762948329183659696 : True := True.intro
theorem holds.tw13356387430892511905 : True := True.intro
theorem holds.tw4021013208564600997 : True := True.intro
theorem holds.tw12657093848384798476 : True := True.intro
theorem holds.tw10894570999934473159 : True := True.intro
theorem holds.tw6995637125483106052 : True := True.intro
theorem holds.tw10292701021901942622 : True := True.intro
theorem holds.tw4952593789767209597 : True := True.intro
theorem holds.tw14781169843320478655 : True := True.intro
theorem holds.tw8664812251140827045 : True := True.intro
theorem holds.tw16307742377514257941 : True := True.intro
theorem holds.tw18202751451028033538 : True := True.intro
theorem holds.tw6817751937963910627 : True := True.intro
theorem holds.tw4698078265318845332 : True := True.intro
theorem holds.tw1859933618095552875 : True := True.intro
theorem holds.tw14777700561071354170 : True := True.intro
theorem holds.tw2758883199114214187 : True := True.intro
theorem holds.tw14205006904943715905 : True := True.intro
theorem holds.tw8413133151647880539 : True := True.intro
theorem holds.tw3256209041318659551 : True := True.intro
theorem holds.tw15750308709622187472 : True := True.intro
theorem holds.tw9143120035062812437 : True := True.intro
theorem holds.tw1327240825893404017 : True := True.intro
theorem holds.tw1342200453600437244 : True := True.intro
theorem holds.tw12733908048491186811 : True := True.intro
theorem holds.tw9925129770185513386 : True := True.intro
theorem holds.tw10713968326849060130 : True := True.intro
theorem holds.tw2180479604254433311 : True := True.intro
theorem holds.tw16725066886706607050 : True := True.intro
theorem holds.tw4631915395601353819 : True := True.intro
theorem holds.tw10853043219271619230 : True := True.intro
theorem holds.tw15986765973559043216 : True := True.intro
theorem holds.tw945861476033566700 : True := True.intro
theorem holds.tw3521771025164786240 : True := True.intro
theorem holds.tw14341210406198164329 : True := True.intro
theorem holds.tw7548614866355832645 : True := True.intro
theorem holds.tw1255485627580398868 : True := True.intro
theorem holds.tw8087273147054526846 : True := True.intro
theorem holds.tw9321796208036801940 : True := True.intro
theorem holds.tw9878063783549791415 : True := True.intro
theorem holds.tw15421342739227911939 : True := True.intro
theorem holds.tw4837763867591130413 : True := True.intro
theorem holds.tw14146095236536434788 : True := True.intro
theorem holds.tw16682935309838494251 : True := True.intro
theorem holds.tw16386887442777793632 : True := True.intro
theorem holds.tw7794074229983474189 : True := True.intro
theorem holds.tw6166532556598395850 : True := True.intro
theorem holds.tw17858152450515298520 : True := True.intro
theorem holds.tw5878047611234877577 : True := True.intro
theorem holds.tw14977296931134136204 : True := True.intro
theorem holds.tw15326264675407861456 : True := True.intro
theorem holds.tw9866653766423218390 : True := True.intro
theorem holds.tw6882208769836361136 : True := True.intro
theorem holds.tw10760469143309519983 : True := True.intro
theorem holds.tw6234259597661685125 : True := True.intro
theorem holds.tw7991519602905016326 : True := True.intro
theorem holds.tw6460966521098074893 : True := True.intro
theorem holds.tw9636209304261665903 : True := True.intro
theorem holds.tw16527965534346479843 : True := True.intro
theorem holds.tw2277698456845511444 : True := True.intro
theorem holds.tw10679687220464918932 : True := True.intro
theorem holds.tw15762835226273150572 : True := True.intro
theorem holds.tw15580662879708500073 : True := True.intro
theorem holds.tw13150661809386230508 : True := True.intro
theorem holds.tw4381757428849502282 : True := True.intro
theorem holds.tw7118747031804142146 : True := True.intro
theorem holds.tw5635654813233479639 : True := True.intro
theorem holds.tw4532548537324856634 : True := True.intro
theorem holds.tw16697607604324151607 : True := True.intro
theorem holds.tw17549760099613038055 : True := True.intro
theorem holds.tw6339512806697972703 : True := True.intro
theorem holds.tw707885073954110949 : True := True.intro
theorem holds.tw129196079805174044 : True := True.intro
theorem holds.tw7366336091430424897 : True := True.intro
theorem holds.tw1438057683635843531 : True := True.intro
theorem holds.tw17597196502641442581 : True := True.intro
theorem holds.tw16497969686579978388 : True := True.intro
theorem holds.tw11647182259668861994 : True := True.intro
theorem holds.tw5082999880386992228 : True := True.intro
theorem holds.tw2990895676391025561 : True := True.intro
theorem holds.tw15172879773585053777 : True := True.intro
theorem holds.tw244612440521699123 : True := True.intro
theorem holds.tw16077201326514603405 : True := True.intro
theorem holds.tw12808162357026388105 : True := True.intro
theorem holds.tw5274829272982666545 : True := True.intro
theorem holds.tw14054693376921006050 : True := True.intro
theorem holds.tw7235909688915465346 : True := True.intro
theorem holds.tw5259053182002985842 : True := True.intro
theorem holds.tw8526464549424780647 : True := True.intro
theorem holds.tw7454310139219270035 : True := True.intro
theorem holds.tw9766128667603022514 : True := True.intro
theorem holds.tw12929723366055764138 : True := True.intro
theorem holds.tw10817008591213730988 : True := True.intro
theorem holds.tw628499413542001115 : True := True.intro
theorem holds.tw12762722769849151566 : True := True.intro
theorem holds.tw12774209864397607762 : True := True.intro
theorem holds.tw4717937361131159733 : True := True.intro
theorem holds.tw5323918697378788693 : True := True.intro
theorem holds.tw11394987932868277362 : True := True.intro
theorem holds.tw16880556292197207165 : True := True.intro
theorem holds.tw12563481999192008768 : True := True.intro
theorem holds.tw11619669790576578751 : True := True.intro
theorem holds.tw10009309266167291388 : True := True.intro
theorem holds.tw13676757877788619591 : True := True.intro
theorem holds.tw2669110664802000394 : True := True.intro
theorem holds.tw17551835440721493442 : True := True.intro
theorem holds.tw5763553328388235881 : True := True.intro
theorem holds.tw4990343992934813274 : True := True.intro
theorem holds.tw16796854770986717008 : True := True.intro
theorem holds.tw9441326970708011783 : True := True.intro
theorem holds.tw3834328006691320696 : True := True.intro
theorem holds.tw18232564904221570389 : True := True.intro
theorem holds.tw11378972443561828832 : True := True.intro
theorem holds.tw17973240255108071979 : True := True.intro
theorem holds.tw7255143783654795107 : True := True.intro
theorem holds.tw2108140421711172253 : True := True.intro
theorem holds.tw5112738896828158680 : True := True.intro
theorem holds.tw2084331650109322480 : True := True.intro
theorem holds.tw16801115162389100519 : True := True.intro
theorem holds.tw14786066558164337950 : True := True.intro
theorem holds.tw12632932662738783937 : True := True.intro
theorem holds.tw7885888744534978006 : True := True.intro
theorem holds.tw12528141070781557109 : True := True.intro
theorem holds.tw7459122314025714673 : True := True.intro
theorem holds.tw954759294903293345 : True := True.intro
theorem holds.tw17144610094948777349 : True := True.intro
theorem holds.tw4057953776094532316 : True := True.intro
theorem holds.tw15349486494167490861 : True := True.intro
theorem holds.tw3210078786618844196 : True := True.intro
theorem holds.tw1357463484097335404 : True := True.intro
theorem holds.tw5498966250228494579 : True := True.intro
theorem holds.tw16955119412671694080 : True := True.intro
theorem holds.tw365462261792218177 : True := True.intro
set_option Elab.async true
theorem holds : PySem.Challenge.rw_pq1344_01.Holds := by
  w_on
  o_law
  o_head (kHook fragK.heap_1 [2, 3, 15, 22, 23, 24, 25, 28, 35, 37, 38, 40, 41, 42, 43, 44, 54, 56, 57, 59, 60, 61, 62, 63, 64, 65, 75, 77, 78, 80, 81, 82, 83, 84, 85, 86, 96, 97, 99, 100, 102, 103, 104, 106, 107, 109, 110, 111, 112, 113, 114, 115, 125, 126, 128, 129, 131, 132, 133, 134, 135, 136, 137, 140, 142, 143, 145, 146, 147, 149, 150, 152, 153, 154, 156, 157, 159, 160, 161, 163, 164, 166, 167, 168, 170, 171, 173, 174, 175, 177, 178, 180, 181, 182, 184, 185, 187, 188, 189, 191, 192, 194, 195, 196, 198, 199, 201, 202, 203, 205, 206, 208, 209, 210, 212, 213, 215, 216, 217, 220, 221, 222, 224, 225, 227, 228, 229, 232, 233, 234, 235, 236, 237, 239, 240, 242, 243, 244, 246, 247, 249, 250, 251, 253, 254, 256, 257, 258, 260, 261, 263, 264, 265, 267, 268, 270, 271, 272, 274, 275, 277, 278, 279, 281, 282, 284, 285, 286, 288, 289, 291, 292, 293, 295, 296, 298, 299, 300, 302, 303, 305, 306, 307, 309, 310, 312, 313, 314, 316, 317, 319, 320, 321, 323, 324, 326, 327, 328, 330, 331, 333, 334, 335, 337, 338, 340, 341, 342, 344, 345, 347, 348, 349, 351, 352, 354, 355, 356, 358, 359, 361, 362, 363, 365, 366, 368, 369, 370, 373, 374, 375, 376, 378, 379, 381, 382, 383, 385, 386, 388, 389, 390, 392, 393, 395, 396, 397, 399, 400, 402, 403, 404, 406, 407, 409, 410, 411, 413, 414, 416, 417, 418, 420, 421, 423, 424, 425, 427, 428, 430, 431, 432, 434, 435, 437, 438, 439, 441, 442, 444, 445, 446, 448, 449, 451, 452, 453, 455, 456, 458, 459, 460, 462, 463, 465, 466, 467, 469, 470, 472, 473, 474, 476, 477, 479, 480, 481, 483, 484, 486, 487, 488, 490, 491, 493, 494, 495, 497, 498, 500, 501, 502, 504, 505, 507, 508, 509, 511, 512, 514, 515, 516, 518, 519, 521, 522, 523, 526, 527, 528, 530, 531, 533, 534, 535, 538, 539, 540, 542, 543, 545, 546, 547, 549, 550, 552, 553, 554, 556, 557, 559, 560, 561, 564, 565, 566, 568, 569, 571, 572, 573, 575, 576, 578, 579, 580, 582, 583, 585, 586, 587, 589, 590, 592, 593, 594, 596, 597, 599, 600, 601, 603, 604, 606, 607, 608, 610, 611, 613, 614, 615, 617, 618, 620, 621, 622, 624, 625, 627, 628, 629, 630, 633, 634, 635, 637, 638, 640, 641, 642, 644, 645, 647, 648, 649, 651, 652, 654, 655, 656, 658, 659, 661, 662, 663, 665, 666, 668, 669, 670, 672, 673, 675, 676, 677, 679, 680, 682, 683, 684, 686, 687, 689, 690, 691, 693, 694, 696, 697, 698, 700, 701, 703, 704, 705, 707, 708, 710, 711, 712, 714, 715, 717, 718, 719, 721, 722, 724, 725, 726, 728, 729, 731, 732, 733, 735, 736, 738, 739, 740, 742, 743, 745, 746, 747, 749, 750, 752, 753, 754, 756, 757, 759, 760, 761, 763, 764, 766, 767, 768, 771, 772, 773, 775, 776, 778, 779, 780, 782, 783, 785, 786, 787, 789, 790, 792, 793, 794, 796, 797, 799, 800, 801, 804, 805, 806, 809, 810, 811, 813, 814, 816, 817, 818, 821, 822] (fun _ => by kernel_rfl))
  (case hw => w_witness2)
  k_go0
  all_goals (try k_fold)
  (rename Fr _ _ _ _ => F9)
  (rename News _ _ _ _ => N9)
  (rename Below _ _ _ _ => K9)
  (rename Heap.IsList _ _ _ => L9)
  (rename IntsAre _ _ => I9)
  (rename Obj.data _ = Data.cell _ => R9)
  (rename Top _ _ _ _ _ _ => T9)
  refine wpAny_mono (lawAll K9 (by assumption) T9 F9 rfl N9 R9 L9 I9 (by omega)) (fun fl s' h => ?_) (fun e s' h => h.elim)
  obtain ⟨rfl, h, tk, m', rfl, F'⟩ := h
  k_end
  wrow_close
end
end Mine
theorem PySem.Challenge.cw_pq1344_01_holds : PySem.Challenge.rw_pq1344_01.Holds := by
  exact Mine.holds
