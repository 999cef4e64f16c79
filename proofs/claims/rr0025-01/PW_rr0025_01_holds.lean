import PyProof.Rows.All
import Wide.All
import OpenK.AllK
import Wide.FinOn
import PySem.Challenge.RW_rr0025_01
set_option Elab.async false
set_option compiler.extract_closed false
set_option maxRecDepth 100000
set_option linter.unusedVariables false
set_option linter.unusedSimpArgs false
section
open PySem PySem.W PyProof.Rows
set_option maxHeartbeats 8000000
namespace Mine
theorem keepH {G : Prop} {H : Hook} (hw : True) (hc : (∃ x : Hook, x = H) → G) : G := hc ⟨_, rfl⟩
section
local macro_rules | `(tactic| o_head $H) => `(tactic| refine keepH (H := $H) ?hw ?hc)
local macro_rules | `(tactic| w_witness2) => `(tactic| exact trivial)
open_top hd for PySem.Challenge.rw_rr0025_01.row
end
noncomputable abbrev P0 : Program := PySem.Challenge.rw_rr0025_01.row.prog
/-- the top's statements that the law's view keeps -/
noncomputable def view : Program := { P0 with main := { P0.main with body := [0, 2, 3, 4, 5, 6, 7, 8, 9, 10, 11, 13, 15, 16, 17, 18, 19, 20, 21, 22, 23, 25, 26, 27, 28, 29, 30, 31, 32, 34, 35, 36, 37, 39, 40, 41, 42, 45].filterMap fun i => P0.main.body[i]? } }
noncomputable abbrev Lo0 : List Str := [Str.ofString "atom_text", Str.ofString "Writer", Str.ofString "term_text"]
/-- what the head leaves -/
noncomputable def Law : Prop := ∀ d kwd, defOf view PySem.Challenge.rw_rr0025_01.row.name = some (d, kwd) →
  WalkO view Lo0 (XL view []) (InK hd.heap_1) PySem.Challenge.rw_rr0025_01.row.toRowW d kwd fun f vs => call f vs
theorem defLaw {C : DefRec → List (Str × Expr) → Prop} {d : DefRec} {kwd : List (Str × Expr)} (h : defOf view PySem.Challenge.rw_rr0025_01.row.name = some (d, kwd)) (g : C d kwd) : ∀ d' k', defOf view PySem.Challenge.rw_rr0025_01.row.name = some (d', k') → C d' k' := by
  intro d' k' e
  rw [h] at e
  cases e
  exact g
end Mine
end
open PySem PySem.W PySem.Calls PyProof.Rows PyProof.V PySem.Spec
namespace Mine
theorem quiet0 : True := by
  w_top off
  trivial
example : True ∧ True := by
  try walk1
  repeat (first | trivial | constructor)
section
-- part B
noncomputable abbrev Led := List (Addr × Obj)
noncomputable abbrev Lo : List Str := looseW view Lo0
theorem fill : ∀ w : World, ∀ h : Heap, (Mine.hd.heap_1 w.params).In h → PySem.Challenge.rw_rr0025_01.row.prog = PySem.Challenge.rw_rr0025_01.row.prog := by
  k_fill
  intros
  rfl

/-- a call of what lies at f, over a ledger, k frames deep: Ret says what may come back, to a letter that takes it -/
noncomputable def Does (k : Nat) (w : World) (mean : ExcName → Option Value) (mg mb : Str → Option Value) (f : Addr) (vs : List Value) (news : Led) (Ret : (Value → Led → Prop) → Prop) : Prop :=
  ∀ (dp un : Nat) (gd : Option (List Code)) (cn : Str) (cs : Scope) (a : Addr) (ccd : Value) (cl : List (Str × Addr)) (outer : List Env) (A₀ : Around) (base h₀ : Heap) (L : Addr) (m : Str → Option Value) (s : Shared) (Q E : Value → Shared → Prop),
    Below A₀ base outer h₀ → Fr h₀ L s.heap m → (hd.heap_1 w.params).In h₀ → News h₀ L s.heap news → Top view Lo mean mg mb h₀ → cs.kind = .function → dp + k < recursionLimit → un + 10 * k < cLine →
    Ret (fun r news' => ∀ h' tk', Fr h₀ L h' m → News h₀ L h' news' → Q r { s with heap := h', toks := tk' }) →
    wpAny (model P0 w) (ktrTop dp un gd cn cs L a ccd cl outer) (call (.ref f) vs) Q E s

theorem allLt_ne {l : Addr} {rest : Led} (h : AllLt l rest) : ∀ p ∈ rest, p.1 ≠ l := by
  induction rest with
  | nil => intro p hp; cases hp
  | cons q r ih =>
    intro p hp
    rcases List.mem_cons.mp hp with rfl | hp
    · exact Nat.ne_of_lt h.1
    · exact ih h.2 p hp

theorem does_mono {k : Nat} {w : World} {mean : ExcName → Option Value} {mg mb : Str → Option Value} {f : Addr} {vs : List Value} {news : Led} {R R' : (Value → Led → Prop) → Prop} (D : Does k w mean mg mb f vs news R) (h : ∀ K, R' K → R K) : Does k w mean mg mb f vs news R' :=
  fun _ _ _ _ _ _ _ _ _ _ _ _ _ _ _ _ _ B F X N T hk hd hu ret => D _ _ _ _ _ _ _ _ _ _ _ _ _ _ _ _ _ B F X N T hk hd hu (h _ ret)
/-- an entry taken out of a ledger -/
inductive Rm (p : Addr × Obj) : Led → Led → Prop
  | head {r} : Rm p (p :: r) r
  | tail {q r r'} : Rm p r r' → Rm p (q :: r) (q :: r')
inductive Pk : Led → Led → Prop
  | nil {all} : Pk all all
  | cons {p led all all'} : Rm p all all' → Pk led all' → Pk (p :: led) all
theorem Rm.mem {p : Addr × Obj} : ∀ {all all' : Led}, Rm p all all' → ∀ q, q ∈ p :: all' → q ∈ all
  | _, _, .head, q, h => h
  | _, _, .tail (q := x) h, q, hq => by
    rcases List.mem_cons.mp hq with rfl | hq
    · exact .tail _ (h.mem _ (.head _))
    · rcases List.mem_cons.mp hq with rfl | hq
      · exact .head _
      · exact .tail _ (h.mem _ (.tail _ hq))
theorem Pk.mem : ∀ {led all : Led}, Pk led all → ∀ q, q ∈ led → q ∈ all
  | _, _, .nil, q, h => h
  | _, _, .cons (p := p) h r, q, hq => by
    rcases List.mem_cons.mp hq with rfl | hq
    · exact h.mem _ (.head _)
    · exact h.mem _ (.tail _ (r.mem _ hq))
theorem Pk.news {led all : Led} {h₀ h : Heap} {L : Addr} (P : Pk led all) (N : News h₀ L h all) : News h₀ L h led := fun p hp => N p (P.mem p hp)

theorem does_use {k : Nat} {w : World} {mean : ExcName → Option Value} {mg mb : Str → Option Value} {f : Addr} {vs : List Value} {led all : Led} {R : (Value → Led → Prop) → Prop} {dp un : Nat} {gd : Option (List Code)} {cn : Str} {cs : Scope} {a : Addr} {ccd : Value} {cl : List (Str × Addr)} {outer : List Env} {A₀ : Around} {base h₀ : Heap} {L : Addr} {m : Str → Option Value} {s : Shared} {Q E : Value → Shared → Prop}
    (B : Below A₀ base outer h₀) (F : Fr h₀ L s.heap m) (X : (hd.heap_1 w.params).In h₀) (N : News h₀ L s.heap all) (T : Top view Lo mean mg mb h₀) (hk : cs.kind = .function)
    (D : Does k w mean mg mb f vs led R) (pk : Pk led all) (hd : dp + k < recursionLimit) (hu : un + 10 * k < cLine)
    (ret : R fun r news' => ∀ h' tk', Fr h₀ L h' m → News h₀ L h' news' → Q r { s with heap := h', toks := tk' }) :
    wpAny (model P0 w) (ktrTop dp un gd cn cs L a ccd cl outer) (call (.ref f) vs) Q E s := D _ _ _ _ _ _ _ _ _ _ _ _ _ _ _ _ _ B F X (pk.news N) T hk hd hu ret

theorem AllLt.tl {d : Addr} {p : Addr × Obj} {r : Led} (h : AllLt d (p :: r)) : AllLt d r := h.2
theorem lt_ne {a b : Nat} {o : Obj} {r : Led} (h : AllLt b r) (hm : (a, o) ∈ r) : a ≠ b := allLt_ne h (a, o) hm
theorem gt_ne {a b : Nat} {o : Obj} {r : Led} (h : AllLt a r) (hm : (b, o) ∈ r) : a ≠ b := (allLt_ne h (b, o) hm).symm
/-- an address that no entry has -/
noncomputable abbrev Off (b : Addr) (r : Led) : Prop := ∀ p ∈ r, p.1 ≠ b
theorem off_ne {a b : Nat} {o : Obj} {r : Led} (h : Off b r) (hm : (a, o) ∈ r) : a ≠ b := h (a, o) hm
theorem off_ne' {a b : Nat} {o : Obj} {r : Led} (h : Off a r) (hm : (b, o) ∈ r) : a ≠ b := (h (b, o) hm).symm
theorem off1 {a b : Nat} {o : Obj} {r : Led} (h : a ≠ b) (k : Off b r) : Off b ((a, o) :: r) := List.forall_mem_cons.mpr ⟨h, k⟩
theorem offApp {b : Addr} {l r : Led} (h : Off b l) (k : Off b r) : Off b (l ++ r) := fun p hp => (List.mem_append.mp hp).elim (h p) (k p)

theorem sub1 {a : Addr} {o : Obj} {r all : Led} (h1 : (a, o) ∈ all) (h2 : ∀ p ∈ r, p ∈ all) : ∀ p ∈ (a, o) :: r, p ∈ all := List.forall_mem_cons.mpr ⟨h1, h2⟩
theorem sub2 {p : Addr × Obj} {r all : Led} (h2 : ∀ q ∈ r, q ∈ all) : ∀ q ∈ r, q ∈ p :: all := fun q hq => .tail _ (h2 q hq)
theorem sub3 {r : Led} : ∀ q ∈ r, q ∈ r := fun _ h => h
theorem len_l {prog : Program} {w : World} {A : Around} {E : Value → Shared → Prop} {s : Shared} {h₀ : Heap} {L a : Addr} {news : Led} {vs : List Value} {n : Nat} {Q : Value → Shared → Prop} (N : News h₀ L s.heap news) (hm : (a, listOf vs.toArray n) ∈ news) (hz : vs.length ≤ 1000000)
    (h : ∀ t tk, Q (.int (vs.length : Nat) t) { s with toks := tk }) : wpAny (model prog w) A (call (.builtin "len") [.ref a]) Q E s :=
  call_len_list ⟨_, (N _ hm).1, rfl, n, rfl⟩ (by rw [List.size_toArray]; omega) (by rw [List.size_toArray]; exact h _ _)
theorem units_make (A : Around) (args : Args) : (A.under (.builtin "type.__call__" args)).units = A.units + 1 := rfl
theorem units_ktr (dp un : Nat) (gd : Option (List Code)) (cn : Str) (cs : Scope) (L a : Addr) (ccd : Value) (cl : List (Str × Addr)) (outer : List Env) : (ktrTop dp un gd cn cs L a ccd cl outer).units = un := rfl
theorem AllLt.up {a b : Nat} {r : Led} (h : AllLt a r) (k : a < b) : AllLt b r := by
  induction r with
  | nil => trivial
  | cons p r ih => exact ⟨Nat.lt_trans h.1 k, ih h.2⟩
/-- the frame's map with the stored names forgotten -/
theorem frame_form {stored : List Str} {m' m₀ : Str → Option Value} (h : ∀ y, stored.contains y = false → m' y = m₀ y) : m' = fun y => if stored.contains y then m' y else m₀ y := by
  funext y
  cases hc : stored.contains y with
  | true => simp
  | false => simp [h y hc]

section
variable {prog : Program} {w : World} {A : Around} {E : Value → Shared → Prop} {s : Shared} {env : Env} {h₀ : Heap} {target : Expr} {body : List Stmt} {Q : Flow → Shared → Prop}
/-- what is left of a loop over a made tuple or list -/
noncomputable def Rest (prog : Program) (w : World) (A : Around) (E : Value → Shared → Prop) (h₀ : Heap) (env : Env) (target : Expr) (body : List Stmt) (Q : Flow → Shared → Prop) (s : Shared) (I : Addr) (cls : String) (lp : Addr × Obj) (vs : List Value) (m : Str → Option Value) (news : Led) : Prop :=
  ItemsRest prog w A E h₀ env target body Q s [(I, cls)] [lp] (vs.map .val) m news
theorem postW_mono {L : Addr} {s₁ s₂ : Shared} {its : Led} {R R' : (Str → Option Value) → Led → Prop} {f : Flow} (h : UnrPostW h₀ L s₁ its R Q f s₂) (k : ∀ m n, (∀ p ∈ n, ∀ q ∈ its, p.1 ≠ q.1) → R m n → R' m n) : UnrPostW h₀ L s₁ its R' Q f s₂ := by
  cases f with
  | ret v => exact h
  | brk => exact h
  | next => obtain ⟨h', tk, m', n', e, F, N, o, r⟩ := h; exact ⟨h', tk, m', n', e, F, N, o, k _ _ o r⟩
  | cont => obtain ⟨h', tk, m', n', e, F, N, o, r⟩ := h; exact ⟨h', tk, m', n', e, F, N, o, k _ _ o r⟩
theorem rest_ind {I : Addr} {cls : String} {lp : Addr × Obj} (J : List Value → (Str → Option Value) → Led → Prop)
    (turn : ∀ v r m nx h tk it, J (v :: r) m nx → (∀ p ∈ nx, p.1 ≠ I) → it.cls = .type cls → Fr h₀ env.locals h m → News h₀ env.locals h ((I, it) :: nx) →
      wpAny (model prog w) A (assign target env v) (fun _ s₂ => wpAny (model prog w) A (execs body env) (UnrPostW h₀ env.locals { s with heap := h, toks := tk } [(I, it)] (fun m' n' => SubL [lp] n' ∧ J r m' n') Q) E s₂) E { s with heap := h, toks := tk })
    (done : ∀ m nx h tk, J [] m nx → Fr h₀ env.locals h m → News h₀ env.locals h nx → Q .next { s with heap := h, toks := tk }) :
    ∀ (vs : List Value) (m : Str → Option Value) (nx : Led), J vs m nx → (∀ p ∈ nx, p.1 ≠ I) → Rest prog w A E h₀ env target body Q s I cls lp vs m nx := by
  intro vs
  induction vs with
  | nil => intro m nx hJ _ h tk F N; exact done m nx h tk hJ F N
  | cons v r ih =>
    intro m nx hJ ho u h tk e F
    have e' : u = v := e
    subst e'
    refine AllObj.cons fun it hc => AllObj.nil fun N => ?_
    refine wpAny_mono (turn _ r m nx h tk it hJ ho hc F N) (fun _ s₂ h₂ => wpAny_mono h₂ (fun f s₃ p => postW_mono p fun m' n' o q => ⟨q.1, ?_⟩) fun _ _ x => x) fun _ _ x => x
    exact ih m' n' q.2 fun p hp => o p hp (I, it) (List.mem_singleton.mpr rfl)
theorem iter_tup {ax : Addr} {vs : List Value} {n : Nat} {m₀ : Str → Option Value} {news : Led}
    (hh : A.handled = none) (F : Fr h₀ env.locals s.heap m₀) (N : News h₀ env.locals s.heap news) (hm : (ax, ({ cls := .type "tuple", data := .seq vs.toArray n } : Obj)) ∈ news)
    (rest₀ : ∀ (I : Addr) (lo : Obj), (ax, lo) ∈ news → (∀ p ∈ news, p.1 < I) → Rest prog w A E h₀ env target body Q s I "tuple_iterator" (ax, lo) vs m₀ news) :
    wpAny (model prog w) A (pyIter (.ref ax)) (fun it s₂ => TurnsAt prog w A h₀ env target body Q E it s₂) E s :=
  iter_tupTurns (vs := vs) hh F N hm rfl rfl fun I l => rest₀ I _ hm l
theorem iter_list {ax : Addr} {vs : List Value} {n : Nat} {m₀ : Str → Option Value} {news : Led}
    (hh : A.handled = none) (F : Fr h₀ env.locals s.heap m₀) (N : News h₀ env.locals s.heap news) (hm : (ax, listOf vs.toArray n) ∈ news)
    (rest₀ : ∀ (I : Addr) (lo : Obj), (ax, lo) ∈ news → (∀ p ∈ news, p.1 < I) → Rest prog w A E h₀ env target body Q s I "list_iterator" (ax, lo) vs m₀ news) :
    wpAny (model prog w) A (pyIter (.ref ax)) (fun it s₂ => TurnsAt prog w A h₀ env target body Q E it s₂) E s :=
  iter_listTurns (vs := vs) hh F N hm rfl rfl fun I l => rest₀ I _ hm l
theorem rest_sub {I : Addr} {cls : String} {lp : Addr × Obj} {vs : List Value} {m : Str → Option Value} {nx : Led} (nx' : Led) (hs : ∀ p ∈ nx', p ∈ nx) (R : Rest prog w A E h₀ env target body Q s I cls lp vs m nx') : Rest prog w A E h₀ env target body Q s I cls lp vs m nx := by
  cases vs with
  | nil => exact fun h tk F N => R h tk F fun p hp => N p (hs p hp)
  | cons v r =>
    intro u h tk e F
    refine AllObj.cons fun it hc => AllObj.nil fun N => ?_
    refine (R u h tk e F it hc) fun p hp => ?_
    rcases List.mem_append.mp hp with hp | hp
    · exact N p (List.mem_append_left _ hp)
    · exact N p (List.mem_append_right _ (hs p hp))
theorem name_form {m : Str → Option Value} {x : Str} {v : Value} (h : m x = some v) : m = fun y => if y = x then some v else m y := by
  funext y
  by_cases e : y = x
  · rw [if_pos e, e, h]
  · rw [if_neg e]
/-- a turn's end -/
theorem turn_end {L I : Addr} {it : Obj} {rest : (Str → Option Value) → Led → Prop} {s₁ : Shared} {h' : Heap} {tk : Nat} {m' : Str → Option Value} {all : Led} (news' : Led) (F : Fr h₀ L h' m') (N : News h₀ L h' all)
    (sub : ∀ p ∈ (I, it) :: news', p ∈ all) (off : ∀ p ∈ news', p.1 ≠ I) (r : rest m' news') : UnrEndW h₀ L s₁ [(I, it)] rest { s₁ with heap := h', toks := tk } :=
  ⟨h', tk, m', news', rfl, F, fun p hp => N p (sub p hp), fun p hp q hq => by rw [List.mem_singleton.mp hq]; exact off p hp, r⟩
end
section
variable {prog : Program} {w : World} {K : Type} [DecidableEq K] {knd : KeyKind prog w K} {enc : K → PyData} {h₀ h : Heap} {L d a : Addr} {m : Str → Option Value} {news : Led} {D : List (PyData × PyData)} {ks : List K} {ok : Obj} {A : Around} {E : Value → Shared → Prop} {s : Shared}
/-- a store under a tuple, the ledger told; the table is told over a part of the ledger -/
theorem tup_set {v : Value} {dv : PyData} {Q : Unit → Shared → Prop} {o : Obj} {newsT : Led} {g gT : Obj → Led} (henc : ∀ a b, same (enc a) (enc b) = decide (a = b)) (hu : A.units + 1 < cLine) (hv : Flat v dv)
    (F : Fr h₀ L s.heap m) (N : News h₀ L s.heap news) (T : TupTab knd enc newsT d D) (hsub : ∀ p ∈ newsT, p ∈ news) (hka : (a, ok) ∈ newsT) (tk : TupKeyObj knd ks ok) (U : UpdF d o news g) (UT : UpdF d o newsT gT)
    (h : ∀ h' o', Fr h₀ L h' m → News h₀ L h' (g o') → TupTab knd enc (gT o') d (putD (encTuple enc ks) dv D) → Q () { s with heap := h', toks := s.toks + (ks.length + 1) })
    (hsz : D.length ≤ sizeLine) : wpAny (model prog w) A (setItem (.ref d) (.ref a) v) Q E s := by
  have NT : News h₀ L s.heap newsT := fun p hp => N p (hsub p hp)
  have kne : ∀ {b : Addr} {ob : Obj} {ks' : List K}, (b, ob) ∈ newsT → TupKeyObj knd ks' ob → b ≠ d := fun hb t => T.key_ne NT hb t
  obtain ⟨lo, o₁, es, ep, xs, hm, hc, hd, he, hn, hk, hf⟩ := T
  obtain ⟨pre, post, rfl, hg, h1, h2⟩ := U.split
  obtain ⟨preT, postT, rfl, hgT, _, _⟩ := UT.split
  have hm' : (d, o) ∈ pre ++ (d, o) :: post := List.mem_append_right _ (.head _)
  have hD : s.heap.DictOfH (tupleKind knd) d xs := ⟨o₁, es, ep, NT.get hm, hc, hd, he, fun x hx => let ⟨_, hmk, t⟩ := hk x hx; t.key (NT.get hmk), hn⟩
  have hxs : xs.length ≤ sizeLine := by have e := hf.length; simp only [kvsOf, List.length_map] at e; omega
  refine wpAny_setItem_heap (hsz := hxs) (knd := tupleKind knd) (tupleKind_room_in1 hu) (tk.key (NT.get hka)) hD fun h' hmm hs => ?_
  obtain ⟨o', es', ep', ho', hc', hd', he', _, hn'⟩ := hmm
  have keep : ∀ p, p ∈ preT ++ (d, o) :: postT → p.1 ≠ d → p ∈ gT o' := fun p hp hpd => by
    rw [hgT]
    rcases List.mem_append.mp hp with hp | hp
    · exact List.mem_append_left _ hp
    · rcases List.mem_cons.mp hp with rfl | hp
      · exact absurd rfl hpd
      · exact List.mem_append_right _ (.tail _ hp)
  refine h h' o' (F.change hs (N _ hm').2.1 (N.fresh hm')) (hg o' ▸ N.setIn h1 h2 hs ho')
    ⟨lo, o', es', ep', storedH xs ks a v, by rw [hgT]; exact List.mem_append_right _ (.head _), hc', hd', he', hn', fun x hx => ?_, by rw [kvsOf_storedH]; exact hf.stored (same_encTuple henc) ks hv⟩
  rcases mem_storedH hx with ⟨y, hy, e1, e2⟩ | ⟨e1, e2⟩
  · obtain ⟨oky, hmk, t⟩ := hk y hy
    exact ⟨oky, by rw [e2]; exact keep _ hmk (kne hmk t), by rw [e1]; exact t⟩
  · exact ⟨ok, by rw [e2]; exact keep _ hka (kne hka tk), by rw [e1]; exact tk⟩
theorem tupTab_sub {news' : Led} (T : TupTab knd enc news d D) (hs : ∀ p ∈ news, p ∈ news') : TupTab knd enc news' d D := by
  obtain ⟨lo, o, es, ep, xs, hm, hc, hd, he, hn, hk, hf⟩ := T
  exact ⟨lo, o, es, ep, xs, hs _ hm, hc, hd, he, hn, fun x hx => let ⟨okx, hmk, t⟩ := hk x hx; ⟨okx, hs _ hmk, t⟩, hf⟩
end
noncomputable def Stop (p : Prop) : Prop := p
theorem stopper {p : Prop} (h : Stop p) : p := h
/-- the functions that have a contract -/
noncomputable def stops : List Nat := [35, 56, 70, 122, 133, 175, 182, 189, 196, 206, 213, 270, 277, 287, 298, 305, 313, 320, 327, 357, 364, 371, 378, 385, 392, 399, 406, 420, 427, 434, 472]
theorem stopF {prog : Program} {w : World} {A : Around} {f : Nat} {vs : List Value} {Q E : Value → Shared → Prop} {s : Shared} (h : f ∈ stops) (k : Stop (wpAny (model prog w) A (call (.ref f) vs) Q E s)) : wpAny (model prog w) A (call (.ref f) vs) Q E s := k
end
local macro_rules | `(tactic| krn_off) => `(tactic| first | with_reducible assumption | exact allLt_of (by with_reducible assumption) | ((iterate 15 (try (first | with_reducible assumption | apply AllLt.tl))); done))
local macro_rules | `(tactic| k_lt $h:ident) => `(tactic| replace $h := allLt_of $h)
local macro_rules | `(tactic| k_ne) => `(tactic| first | with_reducible assumption | exact Ne.symm (by with_reducible assumption) | exact lt_ne (by with_reducible assumption) (by k_mem) | exact gt_ne (by with_reducible assumption) (by k_mem) | exact off_ne (by with_reducible assumption) (by k_mem) | exact off_ne' (by with_reducible assumption) (by k_mem) | (refine neN ?_; (try dsimp only); omega))
local macro_rules | `(tactic| k_all) => `(tactic| ((repeat (refine off1 ?_ ?_; focus k_ne)); first | with_reducible assumption | exact List.forall_mem_nil _ | exact allLt_ne (by krn_off)))
local macro_rules | `(tactic| size_fits) => `(tactic| (simp only [List.size_toArray, PySem.sizeLine_eq]; omega))
local macro_rules | `(tactic| kbt_split) => `(tactic| first | exact Rm.head | (apply Rm.tail; kbt_split) | fail "kbt_split")
local macro_rules | `(tactic| fold_lay) => `(tactic| (refine' code_def ?k1 ?k2 ?k3 ?k4 ?k5 ?kA ?kF ?kK ?k6 ?k7 ?k8 ?k9 ?kB ?_ ?c2 ?c3 ?c4 ?c5; (case kA => exact rfl); (case kF => exact rfl); (case kK => first | exact rfl | assumption); (case k1 => k_asm); (case k2 => k_asm); (case k3 => k_asm); (case k4 => k_asm); (case k5 => k_asm); (case k6 => k_is); (case k7 => k_is); (case k8 => ktr_room); (case k9 => first | exact BindsTo.of_eq rfl | exact binds_K (by k_in) rfl (by k_is) rfl rfl rfl); (case c5 => decide); (case kB => exact locs rfl); (case c2 => exact rfl); (case c3 => exact rfl); (case c4 => exact rfl); k_whole; intro g' L' h' FG' F' N' B' X' T'; (try dsimp only); (try k_lift B'); (try k_fold)))
local macro_rules | `(tactic| walk_at "call ref") => `(tactic| (k_here; k_dflt (first
  | (refine' call_cls ?k1 ?k2 ?k3 ?k4 ?k5 ?k6 ?_; (case k1 => k_asm); (case k2 => k_asm); (case k3 => k_asm); (case k4 => k_is); (case k5 => k_is); (case k6 => k_is); k_whole; intro x' d' h' F' N' l1 l2; (try k_lt l1); (try k_lt2 l2); (try k_sweep); fold_lay)
  | (refine' call_meth ?k1 ?k2 ?_; (case k1 => k_asm); (case k2 => k_mem); k_whole; fold_lay)
  | (refine wpAny_call ?_; fold_lay))))
local macro_rules | `(tactic| walk_at "call ref") => `(tactic| (k_here; (with_unfolding_all refine stopF (by decide) ?_)))
local macro_rules | `(tactic| ktr_units) => `(tactic| ((simp only [units_in1, units_deeper, Around.mark_units, units_make, units_ktr, cLine_is] at *); omega))
local macro_rules | `(tactic| ksw_less) => `(tactic| first | with_reducible exact sub3 | with_reducible assumption | (refine sub1 ?_ ?_; (focus k_mem); ksw_less) | (refine sub2 ?_; ksw_less))
local macro_rules | `(tactic| k_mem) => `(tactic| ((repeat (first | exact List.Mem.head _ | refine List.Mem.tail _ ?_)); first | done | with_reducible assumption | assumption))
local macro_rules | `(tactic| kcj_all) => `(tactic| first | kcj_in | (with_unfolding_all ((try simp only [List.nil_append, List.cons_append]); k_allIn)))
local macro_rules | `(tactic| walk_at "ite") => `(tactic| (k_closed; k_dflt (first | (refine ite_pos ?iteC ?_; (case iteC => decide)) | (refine ite_neg ?iteC ?_; (case iteC => decide)))))
local macro_rules | `(tactic| walk_at "execs cons") => `(tactic| (k_here; k_fold))
local macro_rules | `(tactic| walk_at "newTuple") => `(tactic| (k_here; k_dflt (refine' kup_newTuple ?F ?N ?_ ?z; (case F => k_asm); (case N => k_asm); (case z => kmk_size)); intro D' h' F' N' l1; (try k_lt l1); (try k_sweep)))
example : ∀ w : World, ∀ h : Heap, (Mine.hd.heap_1 w.params).In h → PySem.Challenge.rw_rr0025_01.row.prog = PySem.Challenge.rw_rr0025_01.row.prog := by
  k_fill
  intros
  rfl
noncomputable def prime0.tw14483651329830533851 : Unit := ()
noncomputable def prime0.tw16793062839414302242 : Unit := ()
noncomputable def prime0.tw6051805267018829825 : Unit := ()
set_option Elab.async true in
theorem prime0 : True := by
  first
  | (have h : Law := by
      unfold Law
      refine defLaw (by rfl) ?_
      k_fill
      intro w s₀ s₁ mg mb G Y fa o pm cd doc dV kV ho hd hcd hD hmg hg args vals as hpre hlay hrd hwl hlo
      have KX : (Mine.hd.heap_1 w.params).In s₁.heap := Y
      k_behind G ho hd hcd hD hmg hpre hlay hrd hwl hlo cd
      fail
     trivial)
  | trivial
theorem sync0 : True := trivial
example : True ∧ True := by
  try walk1
  repeat (first | trivial | constructor)
section
-- part A1

/-- the texts with their numbers -/
noncomputable def tabOf (T : List Str) : List (Str × Int) := T.mapIdx fun i t => (t, (i : Int))
/-- what asking for a text's number does to the texts -/
noncomputable def AtomTo (T : List Str) (t : Str) (T' : List Str) (i : Int) : Prop := (T' = T ∧ 0 ≤ i ∧ T[i.toNat]? = some t) ∨ (T' = T ++ [t] ∧ t ∉ T ∧ i = T.length)
theorem tabOf_len (T : List Str) : (tabOf T).length = T.length := by simp [tabOf]
theorem tabOf_mem {T : List Str} {p : Str × Int} (h : p ∈ tabOf T) : 0 ≤ p.2 ∧ T[p.2.toNat]? = some p.1 := by
  obtain ⟨i, hi, rfl⟩ := List.mem_mapIdx.mp h
  simp [hi]
theorem tabOf_has {T : List Str} {t : Str} (h : t ∈ T) : ∃ p ∈ tabOf T, p.1 = t := by
  obtain ⟨i, hi, e⟩ := List.mem_iff_getElem.mp h
  exact ⟨(t, i), List.mem_mapIdx.mpr ⟨i, hi, by simp [e]⟩, rfl⟩
theorem look_yes {T : List Str} {t : Str} (h : 0 ≤ kdpLook (tabOf T) t (-1)) : T[(kdpLook (tabOf T) t (-1)).toNat]? = some t := by
  unfold kdpLook at *
  cases e : (tabOf T).find? (fun p => decide (p.1 = t)) with
  | none => rw [e] at h; simp at h
  | some p =>
    rw [e] at h
    have h1 := List.find?_some e
    have h2 := tabOf_mem (List.mem_of_find?_eq_some e)
    simp only [decide_eq_true_eq] at h1
    simp only [Option.map_some, Option.getD_some]
    rw [h2.2, h1]
theorem look_no {T : List Str} {t : Str} (h : ¬ 0 ≤ kdpLook (tabOf T) t (-1)) : t ∉ T := by
  intro ht
  obtain ⟨p, hp, e⟩ := tabOf_has ht
  apply h
  unfold kdpLook
  cases e' : (tabOf T).find? (fun p => decide (p.1 = t)) with
  | none => exact absurd e (by simpa using List.find?_eq_none.mp e' p hp)
  | some q =>
    simp only [Option.map_some, Option.getD_some]
    exact (tabOf_mem (List.mem_of_find?_eq_some e')).1
theorem tab_put {T : List Str} {t : Str} (h : t ∉ T) : kdpPut (tabOf T) t (T.length : Int) = tabOf (T ++ [t]) := by
  unfold kdpPut
  rw [if_neg]
  · unfold tabOf; simp [List.mapIdx_append]
  · simp only [List.any_eq_true, decide_eq_true_eq, not_exists, not_and]
    intro p hp e
    obtain ⟨_, h2⟩ := tabOf_mem hp
    exact h (e ▸ List.mem_of_getElem? h2)

/-- the hashes and the counts of a Symbols' dict -/
structure SymH where
  (a b c d : Int) (e f g h : Tok) (n : Nat)
noncomputable abbrev symDict (H : SymH) (bt bn bf bg : Nat) : Obj :=
  dictOf [⟨H.a, .str (Str.ofString "texts") H.e, .ref bt⟩, ⟨H.b, .str (Str.ofString "atom_numbers") H.f, .ref bn⟩, ⟨H.c, .str (Str.ofString "functors") H.g, .ref bf⟩, ⟨H.d, .str (Str.ofString "functor_numbers") H.h, .ref bg⟩] H.n
set_option maxHeartbeats 4000000 in
theorem atom_spec {w : World} {mean : ExcName → Option Value} {mg mb : Str → Option Value} {x dx bt bn bf bg : Nat} {H : SymH} {nt : Nat} {vs : List Value} {T : List Str} {on : Obj} {kvs : List (Str × Value)} {rest : Led} {t : Str} {tt : Tok}
    (hs : StrsAre vs T) (hdn : on.IsDictOf (PySem.strKind P0 w) kvs) (hfp : FlatPairs PyData.str kvs (kdpD (tabOf T))) (hlo : (bn == sysModules) = false) (hlen : T.length ≤ 10000)
    (o1 : Off bt rest) (o2 : Off bn rest) (n1 : x ≠ bt) (n2 : dx ≠ bt) (n3 : bn ≠ bt) (n4 : x ≠ bn) (n5 : dx ≠ bn) :
    Does 3 w mean mg mb 56 [.ref x, .str t tt] ((x, instObj 122 dx) :: (dx, symDict H bt bn bf bg) :: (bt, listOf vs.toArray nt) :: (bn, on) :: rest)
      (fun K => ∀ i tk T' vs' nt' on' kvs', AtomTo T t T' i → StrsAre vs' T' → on'.IsDictOf (PySem.strKind P0 w) kvs' → FlatPairs PyData.str kvs' (kdpD (tabOf T')) →
        K (.int i tk) ((x, instObj 122 dx) :: (dx, symDict H bt bn bf bg) :: (bt, listOf vs'.toArray nt') :: (bn, on') :: rest)) := by
  unfold Does
  intro dp un gd cn cs fa ccd cl outer A₀ base h₀ L m s Q E B F X N Tp hk hd hu hret
  have hvl : vs.length ≤ 10000 := by rw [hs.length]; exact hlen
  have hcl : (tabOf T).length ≤ 10000 := by rw [tabOf_len]; exact hlen
  refine wpAny_call ?_
  k_dflt cell_enter
  k_steps
  · exact hret _ _ T vs nt on kvs (.inl ⟨rfl, by assumption, look_yes (by assumption)⟩) (by assumption) (by assumption) (by assumption) _ _ (by k_asm) (by k_asm)
  · rename FlatPairs _ _ _ => hf9
    rw [tab_put (look_no (by assumption))] at hf9
    exact hret _ _ (T ++ [t]) (vs ++ [.str t tt]) _ _ _ (.inr ⟨rfl, look_no (by assumption), rfl⟩) (PyProof.Rows.StrsAre.append' (by assumption) (.cons _ _ .nil)) (by assumption) (by assumption) _ _ (by k_asm) (by rename News _ _ _ _ => NN; rw [List.push_toArray] at NN; exact NN)

section
local macro_rules | `(tactic| walk_at "call builtin:len") => `(tactic| (k_here; (with_reducible show wpAny _ _ (call (Value.builtin "len") [Value.ref _]) _ _ _); k_dflt (refine' len_l ?N ?m ?z ?_; (case N => k_asm); (case m => k_mem); (case z => omega)); intro t9 tk9))
local macro_rules | `(tactic| walk_at "getMethod ref") => `(tactic| (k_here; (with_reducible show wpAny _ _ (getMethod (Value.ref _) (Str.ofString "get") _) _ _ _); k_dflt (refine' getMethod_tupTab_get (knd := PySem.intKind _ _) (enc := PyData.int) ?N ?T ?_; (case N => k_asm); (case T => exact tupTab_sub (by assumption) (by ksw_less)))))
local macro_rules | `(tactic| walk_at "call builtin:dict.get") => `(tactic| (k_here; (with_reducible show wpAny _ _ (call (Value.builtin "dict.get") [Value.ref _, Value.ref _, _]) _ _ _); k_dflt (refine' call_get2_tupTab_eq (knd := PySem.intKind _ _) (enc := PyData.int) PyProof.V.same_int ?hu ?N ?T ?ka ?tk (PyProof.V.Flat.int _ _) ?hg ?_; (case N => k_asm); (case T => exact tupTab_sub (by assumption) (by ksw_less)); (case ka => k_mem); (case tk => exact TupKeyObj.made (by tuptab_items_int)); (case hg => assumption); (case hu => units_room)); intro v9 hv9; (obtain ⟨t9, e9⟩ := PyProof.V.Flat.int_inv hv9); (subst e9)))
local macro_rules | `(tactic| walk_at "setItem ref ref") => `(tactic| (k_here; k_dflt (refine' tup_set (knd := PySem.intKind _ _) (enc := PyData.int) (newsT := (_, _) :: (_, _) :: _) PyProof.V.same_int ?hu (PyProof.V.Flat.int _ _) ?F ?N ?T ?hs ?ka ?tk ?U ?UT ?_ ?hz; (case F => k_asm); (case N => k_asm); (case T => exact TupTab.cons (by assumption) _); (case hs => ksw_less); (case ka => exact List.Mem.head _); (case tk => exact TupKeyObj.made (by tuptab_items_int)); (case U => k_updF); (case UT => k_updF); (case hu => units_room); (case hz => (rw [sizeLine_eq]; omega))); intro h9 o9 F9 N9 T9; (try dsimp only at N9 T9)))
set_option maxHeartbeats 4000000 in
theorem functor_spec {w : World} {mean : ExcName → Option Value} {mg mb : Str → Option Value} {x dx bt bn bf bg : Nat} {H : SymH} {nf : Nat} {Fs : List Value} {og : Obj} {D : List (PyData × PyData)} {rest rt : Led} {a n : Int} {ta tn : Tok}
    (hl : (PySem.Spec.lookup (encTuple PyData.int [a, n]) D).getD (.int (-1)) = .int (-1)) (hlen : Fs.length ≤ 10000) (hD : D.length ≤ 10000)
    (o1 : Off bf rest) (o2 : Off bg rest) (n1 : x ≠ bf) (n2 : dx ≠ bf) (n3 : bg ≠ bf) (n4 : x ≠ bg) (n5 : dx ≠ bg)
    (hT : TupTab (PySem.intKind P0 w) PyData.int ((bg, og) :: rt) bg D) (hrt : ∀ p ∈ rt, p ∈ rest) :
    Does 3 w mean mg mb 70 [.ref x, .int a ta, .int n tn] ((x, instObj 122 dx) :: (dx, symDict H bt bn bf bg) :: (bf, listOf Fs.toArray nf) :: (bg, og) :: rest)
      (fun K => ∀ (tk : Tok) (ka : Nat) (og' : Obj), TupTab (PySem.intKind P0 w) PyData.int ((bg, og') :: (ka, { cls := .type "tuple", data := .seq [.int a ta, .int n tn].toArray }) :: rt) bg (putD (encTuple PyData.int [a, n]) (.int (Fs.length : Nat)) D) →
        AllLt ka ((x, instObj 122 dx) :: (dx, symDict H bt bn bf bg) :: (bf, listOf Fs.toArray nf) :: (bg, og) :: rest) →
        K (.int (Fs.length : Nat) tk) ((x, instObj 122 dx) :: (dx, symDict H bt bn bf bg) :: (bf, listOf (Fs ++ [Value.ref ka]).toArray (nf + 1)) :: (bg, og') :: (ka, { cls := .type "tuple", data := .seq [.int a ta, .int n tn].toArray }) :: rest)) := by
  unfold Does
  intro dp un gd cn cs fa ccd cl outer A₀ base h₀ L m s Q E B F X N Tp hk hd hu hret
  have ort : Off bg rt := fun p hp => o2 p (hrt p hp)
  refine wpAny_call ?_
  k_dflt cell_enter
  k_steps
  rename TupTab _ _ _ _ _ => T9
  rename News _ _ _ _ => NN
  rw [List.push_toArray] at NN
  exact hret _ _ _ (tupTab_sub T9 (by ksw_less)) (by assumption) _ _ (by k_asm) (cb_drop NN (by ksw_less))
end
end
example : True ∧ True := by
  try walk1
  repeat (first | trivial | constructor)
section
-- part A0

noncomputable abbrev tupO (vs : List Value) : Obj := { cls := .type "tuple", data := .seq vs.toArray }
inductive RowsAre (led : Led) : List Value → List (Str × Int) → Prop
  | nil : RowsAre led [] []
  | cons {a : Addr} {t : Str} {tk tn : Tok} {n : Int} {vs : List Value} {rs : List (Str × Int)} : (a, tupO [.str t tk, .int n tn]) ∈ led → RowsAre led vs rs → RowsAre led (.ref a :: vs) ((t, n) :: rs)
theorem RowsAre.mono {led led' : Led} {vs : List Value} {rs : List (Str × Int)} (h : RowsAre led vs rs) (hs : ∀ p ∈ led, p ∈ led') : RowsAre led' vs rs := by
  induction h with
  | nil => exact .nil
  | cons hm _ ih => exact .cons (hs _ hm) ih
noncomputable def R32 : List (Str × Int) := [(Str.ofString ".", 2), (Str.ofString ",", 2), (Str.ofString ";", 2), (Str.ofString "->", 2), (Str.ofString "\\+", 1), (Str.ofString ":-", 2), (Str.ofString ":-", 1), (Str.ofString "?-", 1), (Str.ofString "-->", 2), (Str.ofString "{}", 1), (Str.ofString "=", 2), (Str.ofString "^", 2), (Str.ofString "-", 1), (Str.ofString "-", 2), (Str.ofString "+", 2), (Str.ofString "/", 2), (Str.ofString "error", 2), (Str.ofString "$VAR", 1), (Str.ofString "catch", 3), (Str.ofString "throw", 1), (Str.ofString "!", 0), (Str.ofString "true", 0), (Str.ofString "fail", 0), (Str.ofString "false", 0), (Str.ofString "call", 1), (Str.ofString "call", 2), (Str.ofString "call", 3), (Str.ofString "call", 4), (Str.ofString "call", 5), (Str.ofString "call", 6), (Str.ofString "call", 7), (Str.ofString "call", 8)]
theorem RowsAre.length {led : Led} {vs : List Value} {rs : List (Str × Int)} (h : RowsAre led vs rs) : vs.length = rs.length := by
  induction h with
  | nil => rfl
  | cons _ _ ih => simp [ih]
/-- all of the first lie above all of the second -/
noncomputable def Above (l news : Led) : Prop := ∀ p ∈ l, AllLt p.1 news
theorem Above.off {l news : Led} {b : Addr} {o : Obj} (h : Above l news) (hm : (b, o) ∈ news) : Off b l := fun p hp e => allLt_ne (h p hp) _ hm e.symm
theorem Above.nil {news : Led} : Above [] news := fun _ h => nomatch h
theorem AllLt.sub {d : Addr} {l l' : Led} (h : AllLt d l) (hs : ∀ p ∈ l', p ∈ l) : AllLt d l' := by
  induction l' with
  | nil => trivial
  | cons p r ih =>
    refine ⟨?_, ih fun q hq => hs q (.tail _ hq)⟩
    have hp := hs p (.head _)
    clear ih hs
    induction l with
    | nil => cases hp
    | cons q l ih =>
      rcases List.mem_cons.mp hp with rfl | hp
      · exact h.1
      · exact ih h.2 hp
inductive StrE : List PySem.Expr → List Str → Prop
  | nil : StrE [] []
  | cons {t : Str} {k : Nat} {p : Pos} {es : List PySem.Expr} {ts : List Str} : StrE es ts → StrE (.Constant (.str t) k p :: es) (t :: ts)
inductive PairE : List PySem.Expr → List (Str × Int) → Prop
  | nil : PairE [] []
  | cons {t : Str} {n : Int} {k k2 k3 : Nat} {p p2 p3 : Pos} {es : List PySem.Expr} {rs : List (Str × Int)} : PairE es rs → PairE (.Tuple [.Constant (.str t) k p, .Constant (.int n) k2 p2] k3 p3 :: es) ((t, n) :: rs)
section
variable {prog : Program} {w : World} {A : Around} {E : Value → Shared → Prop} {env : Env} {pos : Pos} {h₀ : Heap} {L : Addr} {m : Str → Option Value}
theorem strs_walk {es : List PySem.Expr} {ts : List Str} (hp : StrE es ts) : ∀ {s : Shared} {Q : List Value → Shared → Prop}, (∀ vs tk, StrsAre vs ts → Q vs { s with toks := tk }) → wpAny (model prog w) A (spliced (backTo pos (starEach es env))) Q E s := by
  induction hp with
  | nil => intro s Q h; exact args_nil (h [] s.toks .nil)
  | cons _ ih => intro s Q h; exact args_cons (Constant_str (ih fun vs tk hv => h _ tk (.cons _ _ hv)))
theorem pairs_walk {es : List PySem.Expr} {rs : List (Str × Int)} (hp : PairE es rs) : ∀ {s : Shared} {news : Led} {Q : List Value → Shared → Prop}, Fr h₀ L s.heap m → News h₀ L s.heap news →
    (∀ vs rl h' tk, Fr h₀ L h' m → News h₀ L h' (rl ++ news) → RowsAre rl vs rs → Above rl news → Q vs { s with heap := h', toks := tk }) → wpAny (model prog w) A (spliced (backTo pos (starEach es env))) Q E s := by
  induction hp with
  | nil => intro s news Q F N h; exact args_nil (h [] [] s.heap s.toks F N .nil .nil)
  | cons _ ih =>
    intro s news Q F N h
    refine args_cons (Tuple_ (args_cons (Constant_str (args_cons (wpAny_Constant_int (args_nil (kup_newTuple F N (fun D h' F' N' l => ?_) (by rw [sizeLine_eq]; exact Nat.le_of_ble_eq_true rfl))))))))
    refine ih F' N' fun vs rl h2 tk F2 N2 hR hA => ?_
    refine h (.ref D :: vs) (rl ++ [(D, _)]) h2 tk F2 (by rw [List.append_assoc]; exact N2) (.cons (List.mem_append_right _ (.head _)) (hR.mono fun p hp => List.mem_append_left _ hp)) fun p hp => ?_
    rcases List.mem_append.mp hp with hp | hp
    · exact (hA p hp).2
    · rw [List.mem_singleton.mp hp]; exact allLt_of l
end
local macro_rules | `(tactic| walk_at "spliced") => `(tactic| (k_here; refine' pairs_walk ?hp ?pF ?pN ?_; (case hp => (repeat (first | exact PairE.nil | apply PairE.cons))); (case pF => k_asm); (case pN => k_asm); intro vs9 rl9 h9 t9 F9 N9 hR9 hA9))
set_option maxHeartbeats 8000000 in
theorem functors_spec {w : World} {mean : ExcName → Option Value} {mg mb : Str → Option Value} {rest : Led} :
    Does 2 w mean mg mb 35 [] rest (fun K => ∀ (a : Addr) (vs : List Value) (rl : Led), RowsAre rl vs R32 → Above rl rest → AllLt a (rl ++ rest) → K (.ref a) ((a, tupO vs) :: (rl ++ rest))) := by
  unfold Does
  intro dp un gd cn cs fa ccd cl outer A₀ base h₀ L m s Q E B F X N Tp hk hd hu hret
  refine wpAny_call ?_
  fold_lay
  k_steps
  rename RowsAre _ _ _ => hR9
  rename Above _ _ => hA9
  rename Fr _ _ _ _ => kF
  rename News _ _ _ _ => kN
  refine kup_newTuple kF kN (fun D h' F' N' l9 => ?_) (by rw [hR9.length, sizeLine_eq]; exact Nat.le_of_ble_eq_true rfl)
  clear kF kN
  k_steps
  rename Fr _ _ _ _ => kF
  rename News _ _ _ _ => kN
  exact hret _ _ _ hR9 hA9 (allLt_of l9) _ _ kF kN

noncomputable def F29 : List Str := [Str.ofString "[]", Str.ofString ".", Str.ofString "{}", Str.ofString "-", Str.ofString "+", Str.ofString "*", Str.ofString "/", Str.ofString ",", Str.ofString "|", Str.ofString ";", Str.ofString "->", Str.ofString "\\+", Str.ofString ":-", Str.ofString "?-", Str.ofString "-->", Str.ofString "!", Str.ofString "true", Str.ofString "fail", Str.ofString "false", Str.ofString "call", Str.ofString "=", Str.ofString "^", Str.ofString "error", Str.ofString "", Str.ofString "end_of_file", Str.ofString "system", Str.ofString "$VAR", Str.ofString "catch", Str.ofString "throw"]
theorem f29_nodup : F29.Nodup := by decide +kernel
theorem next_new {T R : List Str} {t : Str} (h : T ++ t :: R = F29) : t ∉ T := by
  have h1 := f29_nodup
  rw [← h, List.nodup_append] at h1
  intro ht
  exact h1.2.2 t ht t (.head _) rfl
noncomputable def key32 (n : Nat) : Int × Int := let r := R32.getD n (Str.ofString "", 0); ((F29.idxOf r.1 : Nat), r.2)
noncomputable def enc32 (n : Nat) : PyData := encTuple PyData.int [(key32 n).1, (key32 n).2]
noncomputable def DDn : Nat → List (PyData × PyData)
  | 0 => []
  | n + 1 => putD (enc32 n) (.int (n : Nat)) (DDn n)
noncomputable def isM1 : PyData → Bool
  | .int i => i == -1
  | _ => false
theorem isM1_eq {d : PyData} (h : isM1 d = true) : d = .int (-1) := by
  cases d <;> simp [isM1] at h
  rw [h]
theorem fresh32 : ∀ n, n < 32 → (PySem.Spec.lookup (enc32 n) (DDn n)).getD (.int (-1)) = .int (-1) := by
  intro n h
  have : ∀ n, n < 32 → isM1 ((PySem.Spec.lookup (enc32 n) (DDn n)).getD (.int (-1))) = true := by decide +kernel
  exact isM1_eq (this n h)
theorem len32 : ∀ n, n < 33 → (DDn n).length ≤ 32 := by decide +kernel
theorem r32_len : R32.length = 32 := rfl
theorem r32_in : ∀ n, n < 32 → (R32.getD n (Str.ofString "", 0)).1 ∈ F29 := by decide +kernel
theorem key17 : key32 17 = (26, 1) := by decide +kernel
theorem idx_of {T : List Str} (hn : T.Nodup) {i : Int} {t : Str} (h0 : 0 ≤ i) (h : T[i.toNat]? = some t) : i = (T.idxOf t : Nat) := by
  obtain ⟨hl, he⟩ := List.getElem?_eq_some_iff.mp h
  have h1 : T.idxOf t = i.toNat := by rw [← he]; exact hn.idxOf_getElem _ hl
  rw [h1]
  omega
theorem atom29 {w : World} {mean : ExcName → Option Value} {mg mb : Str → Option Value} {x dx bt bn bf bg : Nat} {H : SymH} {nt : Nat} {vs : List Value} {on : Obj} {kvs : List (Str × Value)} {rest : Led} {t : Str} {tt : Tok}
    (hs : StrsAre vs F29) (hdn : on.IsDictOf (PySem.strKind P0 w) kvs) (hfp : FlatPairs PyData.str kvs (kdpD (tabOf F29))) (hlo : (bn == sysModules) = false) (ht : t ∈ F29)
    (o1 : Off bt rest) (o2 : Off bn rest) (n1 : x ≠ bt) (n2 : dx ≠ bt) (n3 : bn ≠ bt) (n4 : x ≠ bn) (n5 : dx ≠ bn) :
    Does 3 w mean mg mb 56 [.ref x, .str t tt] ((x, instObj 122 dx) :: (dx, symDict H bt bn bf bg) :: (bt, listOf vs.toArray nt) :: (bn, on) :: rest)
      (fun K => ∀ tk vs' nt' on' kvs', StrsAre vs' F29 → on'.IsDictOf (PySem.strKind P0 w) kvs' → FlatPairs PyData.str kvs' (kdpD (tabOf F29)) →
        K (.int (F29.idxOf t : Nat) tk) ((x, instObj 122 dx) :: (dx, symDict H bt bn bf bg) :: (bt, listOf vs'.toArray nt') :: (bn, on') :: rest)) := by
  refine does_mono (atom_spec hs hdn hfp hlo (by decide) o1 o2 n1 n2 n3 n4 n5) fun K h i tk T' vs' nt' on' kvs' hA h1 h2 h3 => ?_
  rcases hA with ⟨rfl, h0, hg⟩ | ⟨_, hn, _⟩
  · rw [idx_of f29_nodup h0 hg]
    exact h _ _ _ _ _ h1 h2 h3
  · exact absurd ht hn
end
example : True ∧ True := by
  try walk1
  repeat (first | trivial | constructor)
section
-- part A2

/-- the frame's map with some names told -/
noncomputable def mlocs (l : List (Str × Value)) (m : Str → Option Value) : Str → Option Value := fun y => match l with | [] => m y | (k, v) :: r => if y = k then some v else mlocs r m y
noncomputable def Has (m : Str → Option Value) : List (Str × Value) → Prop
  | [] => True
  | p :: r => m p.1 = some p.2 ∧ Has m r
theorem mlocs_form {m : Str → Option Value} : ∀ {l : List (Str × Value)}, Has m l → m = mlocs l m
  | [], _ => rfl
  | (k, v) :: r, h => by
    funext y
    unfold mlocs
    by_cases e : y = k
    · rw [if_pos e, e, h.1]
    · rw [if_neg e, ← mlocs_form h.2]
theorem iter_tup2 {prog : Program} {w : World} {A : Around} {E : Value → Shared → Prop} {s : Shared} {env : Env} {h₀ : Heap} {target : PySem.Expr} {body : List Stmt} {Q : Flow → Shared → Prop} {ax : Addr} {vs : List Value} {n : Nat} {m₀ : Str → Option Value} {news : Led}
    (hh : A.handled = none) (F : Fr h₀ env.locals s.heap m₀) (N : News h₀ env.locals s.heap news) (hm : (ax, ({ cls := .type "tuple", data := .seq vs.toArray n } : Obj)) ∈ news)
    (rest₀ : ∀ (I : Addr), (∀ p ∈ news, p.1 < I) → Rest prog w A E h₀ env target body Q s I "tuple_iterator" (ax, { cls := .type "tuple", data := .seq vs.toArray n }) vs m₀ news) :
    wpAny (model prog w) A (pyIter (.ref ax)) (fun it s₂ => TurnsAt prog w A h₀ env target body Q E it s₂) E s :=
  iter_tupTurns (vs := vs) hh F N hm rfl rfl fun I l => rest₀ I l
theorem rest_go {prog : Program} {w : World} {A : Around} {E : Value → Shared → Prop} {s : Shared} {env : Env} {h₀ : Heap} {target : PySem.Expr} {body : List Stmt} {Q : Flow → Shared → Prop} {I : Addr} {cls : String} {lp : Addr × Obj} {vs : List Value} {m : Str → Option Value} {nx : Led} (J : List Value → (Str → Option Value) → Led → Prop) (nx' : Led)
    (sub : ∀ p ∈ nx', p ∈ nx) (st : J vs m nx') (off : Off I nx')
    (turn : ∀ v r m nx h tk it, J (v :: r) m nx → Off I nx → it.cls = .type cls → Fr h₀ env.locals h m → News h₀ env.locals h ((I, it) :: nx) →
      wpAny (model prog w) A (assign target env v) (fun _ s₂ => wpAny (model prog w) A (execs body env) (UnrPostW h₀ env.locals { s with heap := h, toks := tk } [(I, it)] (fun m' n' => SubL [lp] n' ∧ J r m' n') Q) E s₂) E { s with heap := h, toks := tk })
    (done : ∀ m nx h tk, J [] m nx → Fr h₀ env.locals h m → News h₀ env.locals h nx → Q .next { s with heap := h, toks := tk }) : Rest prog w A E h₀ env target body Q s I cls lp vs m nx :=
  rest_sub nx' sub (rest_ind J turn done vs m nx' st off)
theorem rest_any {prog : Program} {w : World} {A : Around} {E : Value → Shared → Prop} {s : Shared} {env : Env} {h₀ : Heap} {target : PySem.Expr} {body : List Stmt} {Q : Flow → Shared → Prop} {I : Addr} {cls : String} {lp : Addr × Obj} {vs : List Value} {m : Str → Option Value} {nx : Led} {α : Type} (f : α → Led) (a : α)
    (sub : ∀ p ∈ f a, p ∈ nx) (go : ∀ a, Rest prog w A E h₀ env target body Q s I cls lp vs m (f a)) : Rest prog w A E h₀ env target body Q s I cls lp vs m nx := rest_sub (f a) sub (go a)
/-- a turn's end: the iterator taken out of the ledger -/
theorem turn_out {h₀ : Heap} {L I : Addr} {it : Obj} {lp : Addr × Obj} {J : (Str → Option Value) → Led → Prop} {s₁ : Shared} {h' : Heap} {tk : Nat} {m' : Str → Option Value} {all news' : Led} (F : Fr h₀ L h' m') (N : News h₀ L h' all)
    (hR : Rm (I, it) all news') (off : Off I news') (hl : lp ∈ news') (r : J m' news') : UnrEndW h₀ L s₁ [(I, it)] (fun m' n' => SubL [lp] n' ∧ J m' n') { s₁ with heap := h', toks := tk } :=
  turn_end news' F N (fun p hp => hR.mem p hp) off ⟨⟨hl, trivial⟩, r⟩
theorem turn_sub {h₀ : Heap} {L I : Addr} {it : Obj} {lp : Addr × Obj} {J : (Str → Option Value) → Led → Prop} {s₁ : Shared} {h' : Heap} {tk : Nat} {m' : Str → Option Value} {all news' : Led} (F : Fr h₀ L h' m') (N : News h₀ L h' all)
    (sub : ∀ p ∈ (I, it) :: news', p ∈ all) (off : Off I news') (hl : lp ∈ news') (r : J m' news') : UnrEndW h₀ L s₁ [(I, it)] (fun m' n' => SubL [lp] n' ∧ J m' n') { s₁ with heap := h', toks := tk } :=
  turn_end news' F N sub off ⟨⟨hl, trivial⟩, r⟩
theorem subT {p : Addr × Obj} {a b : Led} (h : ∀ q ∈ a, q ∈ b) : ∀ q ∈ p :: a, q ∈ p :: b := fun q hq => by
  rcases List.mem_cons.mp hq with rfl | hq
  · exact .head _
  · exact .tail _ (h q hq)
theorem subR {a b l : Led} (h : ∀ q ∈ a, q ∈ b) : ∀ q ∈ a, q ∈ l ++ b := fun q hq => List.mem_append_right _ (h q hq)
theorem allLt_mem {l : Nat} {rest : Led} (h : AllLt l rest) {a : Nat} {o : Obj} (hp : (a, o) ∈ rest) : a < l := by
  induction rest with
  | nil => cases hp
  | cons q r ih =>
    rcases List.mem_cons.mp hp with rfl | hp
    · exact h.1
    · exact ih h.2 hp
theorem rows_cons {rr : Led} {v : Value} {r : List Value} {n : Nat} (h : RowsAre rr (v :: r) (R32.drop n)) : ∃ (a : Addr) (t : Str) (tk tn : Tok) (k : Int), v = .ref a ∧ (a, tupO [.str t tk, .int k tn]) ∈ rr ∧ RowsAre rr r (R32.drop (n + 1)) ∧ n < 32 ∧ t ∈ F29 ∧
    key32 n = (((F29.idxOf t : Nat) : Int), k) := by
  have hn : n < 32 := by
    rcases Nat.lt_or_ge n 32 with h1 | h1
    · exact h1
    · rw [List.drop_eq_nil_of_le (by rw [r32_len]; exact h1)] at h
      cases h
  have hl : n < R32.length := hn
  have hin := r32_in n hn
  have hk : key32 n = (((F29.idxOf (R32.getD n (Str.ofString "", 0)).1 : Nat) : Int), (R32.getD n (Str.ofString "", 0)).2) := rfl
  rw [List.drop_eq_getElem_cons hl] at h
  generalize he : R32[n] = e at h
  have hg : R32.getD n (Str.ofString "", 0) = e := by rw [List.getD_eq_getElem?_getD, List.getElem?_eq_getElem hl, he]; rfl
  rw [hg] at hin hk
  cases h with
  | cons hm hr => exact ⟨_, _, _, _, _, rfl, hm, hr, hn, hin, hk⟩
theorem subA {a b l : Led} (h : ∀ q ∈ a, q ∈ b) : ∀ q ∈ l ++ a, q ∈ l ++ b := fun q hq => (List.mem_append.mp hq).elim (fun x => List.mem_append_left _ x) fun x => List.mem_append_right _ (h q x)
theorem sub2x {p : Addr × Obj} {r : Led} : ∀ q ∈ r, q ∈ p :: r := fun _ h => .tail _ h
/-- what Symbols() gives -/
noncomputable def SymRet (w : World) (rest : Led) (K : Value → Led → Prop) : Prop :=
  ∀ (x d lt dn lf dg k17 : Nat) (H : SymH) (nt nf : Nat) (vs Fs : List Value) (on : Obj) (kvs : List (Str × Value)) (t1 t2 : Tok) (rr : Led), StrsAre vs F29 → on.IsDictOf (PySem.strKind P0 w) kvs → FlatPairs PyData.str kvs (kdpD (tabOf F29)) →
    (dn == sysModules) = false → Fs[17]? = some (.ref k17) → (lf, listOf Fs.toArray nf) ∈ rr → (k17, tupO [.int 26 t1, .int 1 t2]) ∈ rr → (∀ p ∈ rest, p ∈ rr) → Off lt rr → Off dn rr → x ≠ lt → d ≠ lt → dn ≠ lt → x ≠ dn → d ≠ dn →
    K (.ref x) ((x, instObj 122 d) :: (d, symDict H lt dn lf dg) :: (lt, listOf vs.toArray nt) :: (dn, on) :: rr)
inductive SymJ1 (w : World) (x d lt dn lf dg : Nat) (H : SymH) (rr : Led) (r : List Value) (m : Str → Option Value) (nx : Led) : Prop
  | mk (T R : List Str) (vs : List Value) (nt : Nat) (on : Obj) (kvs : List (Str × Value)) : StrsAre r R → T ++ R = F29 → m (Str.ofString "self") = some (.ref x) → StrsAre vs T → on.IsDictOf (PySem.strKind P0 w) kvs → FlatPairs PyData.str kvs (kdpD (tabOf T)) →
      nx = (x, instObj 122 d) :: (d, symDict H lt dn lf dg) :: (lt, listOf vs.toArray nt) :: (dn, on) :: rr → SymJ1 w x d lt dn lf dg H rr r m nx
inductive SymJ2 (w : World) (x d lt dn lf dg I : Nat) (H : SymH) (lp : Addr × Obj) (rest : Led) (r : List Value) (m : Str → Option Value) (nx : Led) : Prop
  | mk (Fs : List Value) (nf : Nat) (og : Obj) (rr : Led) (vs : List Value) (nt : Nat) (on : Obj) (kvs : List (Str × Value)) : m (Str.ofString "self") = some (.ref x) → StrsAre vs F29 → on.IsDictOf (PySem.strKind P0 w) kvs → FlatPairs PyData.str kvs (kdpD (tabOf F29)) → RowsAre rr r (R32.drop Fs.length) → Fs.length ≤ 32 →
      (17 < Fs.length → ∃ (k17 : Nat) (t1 t2 : Tok), Fs[17]? = some (.ref k17) ∧ (k17, tupO [.int 26 t1, .int 1 t2]) ∈ rr) → TupTab (PySem.intKind P0 w) PyData.int ((dg, og) :: rr) dg (DDn Fs.length) → Off lt rr → Off dn rr → Off lf rr → Off dg rr → Off I rr → lp ∈ rr → (∀ p ∈ rest, p ∈ rr) →
      nx = (x, instObj 122 d) :: (d, symDict H lt dn lf dg) :: (lt, listOf vs.toArray nt) :: (dn, on) :: (lf, listOf Fs.toArray nf) :: (dg, og) :: rr → SymJ2 w x d lt dn lf dg I H lp rest r m nx
theorem ne_app {a b : Nat} {o : Obj} {l r : Led} (h : AllLt a (l ++ r)) (hm : (b, o) ∈ r) : a ≠ b := gt_ne h (List.mem_append_right _ hm)
local macro_rules | `(tactic| walk_at "spliced") => `(tactic| (k_here; refine' strs_walk ?hp ?_; (case hp => (apply StrE.cons; apply StrE.cons; repeat (first | exact StrE.nil | apply StrE.cons))); intro vs9 t9 hv9))
local macro_rules | `(tactic| walk_at "exec For Name Call cons nil") => `(tactic| (k_here; (rename Fr _ _ _ _ => lF'); (with_unfolding_all refine' For_turns lF' ?_; k_whole)))
local macro_rules | `(tactic| walk_at "pyIter ref") => `(tactic| (k_here; (with_reducible show wpAny _ _ (pyIter (Value.ref _)) (fun it s₂ => TurnsAt _ _ _ _ _ _ _ _ _ it s₂) _ _); (rename Fr _ _ _ _ => lF'); (rename News _ _ _ _ => lN'); (with_unfolding_all refine iter_tup2 (by rfl) lF' lN' (by k_mem) ?_); clear lF' lN'; intro i' l1; (try k_lt l1)))
local macro_rules | `(tactic| walk_at "subscriptTail") => `(tactic| (k_here; (with_reducible show wpAny _ _ (subscriptTail _ _ (Value.ref _) (Value.int _ _)) _ _ _); k_dflt (refine item_tupleT (News.isTup (by k_asm) (by k_mem)) (by decide) (by decide) (by rfl) (by rfl) ?_)))
set_option maxHeartbeats 8000000 in
theorem symbols_spec {w : World} {mean : ExcName → Option Value} {mg mb : Str → Option Value} {rest : Led} :
    Does 12 w mean mg mb 122 [] rest (SymRet w rest) := by
  unfold Does
  intro dp un gd cn cs fa ccd cl outer A₀ base h₀ L m s Q E B F X N Tp hk hd hu hret
  k_dflt (refine' call_cls ?k1 ?k2 ?k3 ?k4 ?k5 ?k6 ?_; (case k1 => k_asm); (case k2 => k_asm); (case k3 => k_asm); (case k4 => k_is); (case k5 => k_is); (case k6 => k_is); k_whole; intro x' d' h' F' N' l1 l2; (try k_lt l1); (try k_lt2 l2); (try k_sweep); cell_enter)
  (k_steps; (repeat' (unfold Stop; first | (k_dflt (refine' does_use ?Bx1 ?Fx1 ?Xx1 ?Nx1 ?Tx1 ?hkx1 (functor_spec (D := DDn _) ?a1x1 ?a2x1 ?a3x1 ?a4x1 ?a5x1 ?a6x1 ?a7x1 ?a8x1 ?a9x1 ?a10x1 ?a11x1 ?a12x1) ?pkx1 ?hdx1 ?hux1 ?_; (case Bx1 => k_asm); (case Fx1 => k_asm); (case Xx1 => k_asm); (case Nx1 => k_asm); (case Tx1 => k_asm); (case hkx1 => first | exact rfl | assumption); (case pkx1 => (refine' Pk.cons ?q1x1 (Pk.cons ?q2x1 (Pk.cons ?q3x1 (Pk.cons ?q4x1 Pk.nil))); (case q1x1 => kbt_split); (case q2x1 => kbt_split); (case q3x1 => kbt_split); (case q4x1 => kbt_split))); (case a1x1 => assumption); (case a2x1 => omega); (case a3x1 => omega); (case a4x1 => k_all); (case a5x1 => k_all); (case a6x1 => k_ne); (case a7x1 => k_ne); (case a8x1 => k_ne); (case a9x1 => k_ne); (case a10x1 => k_ne); (case a11x1 => assumption); (case a12x1 => ksw_less); (case hdx1 => ktr_room); (case hux1 => ktr_units)); intro _ _ _ _ _ _ _ _ _; (try dsimp only); (try k_steps)) | (k_dflt (refine' does_use ?Bx2 ?Fx2 ?Xx2 ?Nx2 ?Tx2 ?hkx2 (atom29 ?a1x2 ?a2x2 ?a3x2 ?a4x2 ?a5x2 ?a6x2 ?a7x2 ?a8x2 ?a9x2 ?a10x2 ?a11x2 ?a12x2) ?pkx2 ?hdx2 ?hux2 ?_; (case Bx2 => k_asm); (case Fx2 => k_asm); (case Xx2 => k_asm); (case Nx2 => k_asm); (case Tx2 => k_asm); (case hkx2 => first | exact rfl | assumption); (case pkx2 => (refine' Pk.cons ?q1x2 (Pk.cons ?q2x2 (Pk.cons ?q3x2 (Pk.cons ?q4x2 Pk.nil))); (case q1x2 => kbt_split); (case q2x2 => kbt_split); (case q3x2 => kbt_split); (case q4x2 => kbt_split))); (case a1x2 => assumption); (case a2x2 => k_asm); (case a3x2 => assumption); (case a4x2 => k_asm); (case a5x2 => assumption); (case a6x2 => k_all); (case a7x2 => k_all); (case a8x2 => k_ne); (case a9x2 => k_ne); (case a10x2 => k_ne); (case a11x2 => k_ne); (case a12x2 => k_ne); (case hdx2 => ktr_room); (case hux2 => ktr_units)); intro _ _ _ _ _ _ _ _ _ _ _ _; (try dsimp only); (try k_steps)) | (k_dflt (refine' does_use ?Bx3 ?Fx3 ?Xx3 ?Nx3 ?Tx3 ?hkx3 functors_spec ?pkx3 ?hdx3 ?hux3 ?_; (case Bx3 => k_asm); (case Fx3 => k_asm); (case Xx3 => k_asm); (case Nx3 => k_asm); (case Tx3 => k_asm); (case hkx3 => first | exact rfl | assumption); (case pkx3 => exact Pk.nil); (case hdx3 => ktr_room); (case hux3 => ktr_units)); intro _ _ _ _ _ _ _ _ _ _; (try dsimp only); (try k_steps)) | (k_dflt (refine' does_use ?Bx4 ?Fx4 ?Xx4 ?Nx4 ?Tx4 ?hkx4 (atom_spec ?a1x4 ?a2x4 ?a3x4 ?a4x4 ?a5x4 ?a6x4 ?a7x4 ?a8x4 ?a9x4 ?a10x4 ?a11x4 ?a12x4) ?pkx4 ?hdx4 ?hux4 ?_; (case Bx4 => k_asm); (case Fx4 => k_asm); (case Xx4 => k_asm); (case Nx4 => k_asm); (case Tx4 => k_asm); (case hkx4 => first | exact rfl | assumption); (case pkx4 => (refine' Pk.cons ?q1x4 (Pk.cons ?q2x4 (Pk.cons ?q3x4 (Pk.cons ?q4x4 Pk.nil))); (case q1x4 => kbt_split); (case q2x4 => kbt_split); (case q3x4 => kbt_split); (case q4x4 => kbt_split))); (case a1x4 => k_asm); (case a2x4 => k_asm); (case a3x4 => k_asm); (case a4x4 => k_asm); (case a5x4 => k_asm); (case a6x4 => k_all); (case a7x4 => k_all); (case a8x4 => k_ne); (case a9x4 => k_ne); (case a10x4 => k_ne); (case a11x4 => k_ne); (case a12x4 => k_ne); (case hdx4 => ktr_room); (case hux4 => ktr_units)); intro _ _ _ _ _ _ _ _ _ _ _ _ _ _ _; (try dsimp only); (try k_steps)))))
  rename_i lt _ q1 _ _ dn _ on lon hson _ _ _ q2 _ lf _ q3 _ _ dg _ og log _ _ hiog fiog q4 _ _ _ _ _ _ _ _ _ _ vs0 _ hv0 D _ _ _ q5 _ _ I q6
  have n1 : @Ne Nat x' lt := by k_ne
  have n2 : @Ne Nat d' lt := by k_ne
  have n3 : @Ne Nat dn lt := by k_ne
  have n4 : @Ne Nat x' dn := by k_ne
  have n5 : @Ne Nat d' dn := by k_ne
  have n6 : @Ne Nat x' lf := by k_ne
  have n7 : @Ne Nat d' lf := by k_ne
  have n8 : @Ne Nat dg lf := by k_ne
  have n9 : @Ne Nat x' dg := by k_ne
  have n10 : @Ne Nat d' dg := by k_ne
  have n11 : @Ne Nat lt lf := by k_ne
  have n12 : @Ne Nat dn lf := by k_ne
  have n13 : @Ne Nat lt dg := by k_ne
  have n14 : @Ne Nat dn dg := by k_ne
  have r1 : Off lt rest := allLt_ne (by krn_off)
  have r2 : Off dn rest := allLt_ne (by krn_off)
  have r3 : Off lf rest := allLt_ne (by krn_off)
  have r4 : Off dg rest := allLt_ne (by krn_off)
  have r5 : @Ne Nat D lt := by k_ne
  have r6 : @Ne Nat D dn := by k_ne
  have r7 : @Ne Nat D lf := by k_ne
  have r8 : @Ne Nat D dg := by k_ne
  obtain ⟨rr, hrr⟩ : ∃ rr : Led, rr = (lf, listOf ([] : List Value).toArray 0) :: (dg, og) :: (D, tupO vs0) :: rest := ⟨_, rfl⟩
  have o1 : Off lt rr := by subst hrr; k_all
  have o2 : Off dn rr := by subst hrr; k_all
  have o3 : Off I rr := by subst hrr; k_all
  have hlo : (D, tupO vs0) ∈ rr := by subst hrr; k_mem
  refine rest_any (fun H => (x', instObj 122 d') :: (d', symDict H lt dn lf dg) :: (lt, listOf ([] : List Value).toArray 0) :: (dn, on) :: rr) ⟨_, _, _, _, _, _, _, _, _⟩ (by rw [hrr]; ksw_less) fun H => ?_
  refine rest_go (SymJ1 w x' d' lt dn lf dg H rr) _ sub3 (.mk [] F29 [] 0 on [] hv0 rfl rfl .nil hson .nil rfl) ?off ?turn ?done
  case off => k_all
  case turn =>
    clear hrr
    intro v r m nx h tk it hJ hoffI hcls F N
    obtain ⟨T, R, vs, nt, on, kvs, hR, hTR, hm, hs, hd, hf, hnx⟩ := hJ
    cases hR with
    | cons t tt hR =>
      rw [name_form hm] at F
      subst hnx
      have hnew := next_new hTR
      have hlen : T.length ≤ 10000 := by
        have := congrArg List.length hTR
        rw [List.length_append] at this
        have h29 : F29.length = 29 := rfl
        omega
      (k_steps; (repeat' (unfold Stop; first | (k_dflt (refine' does_use ?Bx5 ?Fx5 ?Xx5 ?Nx5 ?Tx5 ?hkx5 (functor_spec (D := DDn _) ?a1x5 ?a2x5 ?a3x5 ?a4x5 ?a5x5 ?a6x5 ?a7x5 ?a8x5 ?a9x5 ?a10x5 ?a11x5 ?a12x5) ?pkx5 ?hdx5 ?hux5 ?_; (case Bx5 => k_asm); (case Fx5 => k_asm); (case Xx5 => k_asm); (case Nx5 => k_asm); (case Tx5 => k_asm); (case hkx5 => first | exact rfl | assumption); (case pkx5 => (refine' Pk.cons ?q1x5 (Pk.cons ?q2x5 (Pk.cons ?q3x5 (Pk.cons ?q4x5 Pk.nil))); (case q1x5 => kbt_split); (case q2x5 => kbt_split); (case q3x5 => kbt_split); (case q4x5 => kbt_split))); (case a1x5 => assumption); (case a2x5 => omega); (case a3x5 => omega); (case a4x5 => k_all); (case a5x5 => k_all); (case a6x5 => k_ne); (case a7x5 => k_ne); (case a8x5 => k_ne); (case a9x5 => k_ne); (case a10x5 => k_ne); (case a11x5 => assumption); (case a12x5 => ksw_less); (case hdx5 => ktr_room); (case hux5 => ktr_units)); intro _ _ _ _ _ _ _ _ _; (try dsimp only); (try k_steps)) | (k_dflt (refine' does_use ?Bx6 ?Fx6 ?Xx6 ?Nx6 ?Tx6 ?hkx6 (atom29 ?a1x6 ?a2x6 ?a3x6 ?a4x6 ?a5x6 ?a6x6 ?a7x6 ?a8x6 ?a9x6 ?a10x6 ?a11x6 ?a12x6) ?pkx6 ?hdx6 ?hux6 ?_; (case Bx6 => k_asm); (case Fx6 => k_asm); (case Xx6 => k_asm); (case Nx6 => k_asm); (case Tx6 => k_asm); (case hkx6 => first | exact rfl | assumption); (case pkx6 => (refine' Pk.cons ?q1x6 (Pk.cons ?q2x6 (Pk.cons ?q3x6 (Pk.cons ?q4x6 Pk.nil))); (case q1x6 => kbt_split); (case q2x6 => kbt_split); (case q3x6 => kbt_split); (case q4x6 => kbt_split))); (case a1x6 => assumption); (case a2x6 => k_asm); (case a3x6 => assumption); (case a4x6 => k_asm); (case a5x6 => assumption); (case a6x6 => k_all); (case a7x6 => k_all); (case a8x6 => k_ne); (case a9x6 => k_ne); (case a10x6 => k_ne); (case a11x6 => k_ne); (case a12x6 => k_ne); (case hdx6 => ktr_room); (case hux6 => ktr_units)); intro _ _ _ _ _ _ _ _ _ _ _ _; (try dsimp only); (try k_steps)) | (k_dflt (refine' does_use ?Bx7 ?Fx7 ?Xx7 ?Nx7 ?Tx7 ?hkx7 functors_spec ?pkx7 ?hdx7 ?hux7 ?_; (case Bx7 => k_asm); (case Fx7 => k_asm); (case Xx7 => k_asm); (case Nx7 => k_asm); (case Tx7 => k_asm); (case hkx7 => first | exact rfl | assumption); (case pkx7 => exact Pk.nil); (case hdx7 => ktr_room); (case hux7 => ktr_units)); intro _ _ _ _ _ _ _ _ _ _; (try dsimp only); (try k_steps)) | (k_dflt (refine' does_use ?Bx8 ?Fx8 ?Xx8 ?Nx8 ?Tx8 ?hkx8 (atom_spec ?a1x8 ?a2x8 ?a3x8 ?a4x8 ?a5x8 ?a6x8 ?a7x8 ?a8x8 ?a9x8 ?a10x8 ?a11x8 ?a12x8) ?pkx8 ?hdx8 ?hux8 ?_; (case Bx8 => k_asm); (case Fx8 => k_asm); (case Xx8 => k_asm); (case Nx8 => k_asm); (case Tx8 => k_asm); (case hkx8 => first | exact rfl | assumption); (case pkx8 => (refine' Pk.cons ?q1x8 (Pk.cons ?q2x8 (Pk.cons ?q3x8 (Pk.cons ?q4x8 Pk.nil))); (case q1x8 => kbt_split); (case q2x8 => kbt_split); (case q3x8 => kbt_split); (case q4x8 => kbt_split))); (case a1x8 => k_asm); (case a2x8 => k_asm); (case a3x8 => k_asm); (case a4x8 => k_asm); (case a5x8 => k_asm); (case a6x8 => k_all); (case a7x8 => k_all); (case a8x8 => k_ne); (case a9x8 => k_ne); (case a10x8 => k_ne); (case a11x8 => k_ne); (case a12x8 => k_ne); (case hdx8 => ktr_room); (case hux8 => ktr_units)); intro _ _ _ _ _ _ _ _ _ _ _ _ _ _ _; (try dsimp only); (try k_steps)))))
      rename AtomTo _ _ _ _ => hA9
      rename Fr _ _ _ _ => lF
      rename News _ _ _ _ => lN
      rename StrsAre _ _ => hs9
      rename Obj.IsDictOf _ _ _ => hd9
      rename FlatPairs _ _ _ => hf9
      rcases hA9 with ⟨_, _, hg⟩ | ⟨hT9, _, _⟩
      · exact absurd (List.mem_of_getElem? hg) hnew
      · subst hT9
        exact turn_out lF lN (by kbt_split) (by k_all) (by k_mem) (.mk (T ++ [t]) _ _ _ _ _ hR (by rw [List.append_assoc]; exact hTR) rfl hs9 hd9 hf9 rfl)
  case done =>
    intro m nx h tk hJ F N
    obtain ⟨T, R, vs, nt, on, kvs, hR, hTR, hm, hs, hd, hf, hnx⟩ := hJ
    cases hR
    rw [List.append_nil] at hTR
    subst hTR
    rw [name_form hm] at F
    subst hnx
    subst hrr
    clear hm
    (k_steps; (repeat' (unfold Stop; first | (k_dflt (refine' does_use ?Bx9 ?Fx9 ?Xx9 ?Nx9 ?Tx9 ?hkx9 (functor_spec (D := DDn _) ?a1x9 ?a2x9 ?a3x9 ?a4x9 ?a5x9 ?a6x9 ?a7x9 ?a8x9 ?a9x9 ?a10x9 ?a11x9 ?a12x9) ?pkx9 ?hdx9 ?hux9 ?_; (case Bx9 => k_asm); (case Fx9 => k_asm); (case Xx9 => k_asm); (case Nx9 => k_asm); (case Tx9 => k_asm); (case hkx9 => first | exact rfl | assumption); (case pkx9 => (refine' Pk.cons ?q1x9 (Pk.cons ?q2x9 (Pk.cons ?q3x9 (Pk.cons ?q4x9 Pk.nil))); (case q1x9 => kbt_split); (case q2x9 => kbt_split); (case q3x9 => kbt_split); (case q4x9 => kbt_split))); (case a1x9 => assumption); (case a2x9 => omega); (case a3x9 => omega); (case a4x9 => k_all); (case a5x9 => k_all); (case a6x9 => k_ne); (case a7x9 => k_ne); (case a8x9 => k_ne); (case a9x9 => k_ne); (case a10x9 => k_ne); (case a11x9 => assumption); (case a12x9 => ksw_less); (case hdx9 => ktr_room); (case hux9 => ktr_units)); intro _ _ _ _ _ _ _ _ _; (try dsimp only); (try k_steps)) | (k_dflt (refine' does_use ?Bx10 ?Fx10 ?Xx10 ?Nx10 ?Tx10 ?hkx10 (atom29 ?a1x10 ?a2x10 ?a3x10 ?a4x10 ?a5x10 ?a6x10 ?a7x10 ?a8x10 ?a9x10 ?a10x10 ?a11x10 ?a12x10) ?pkx10 ?hdx10 ?hux10 ?_; (case Bx10 => k_asm); (case Fx10 => k_asm); (case Xx10 => k_asm); (case Nx10 => k_asm); (case Tx10 => k_asm); (case hkx10 => first | exact rfl | assumption); (case pkx10 => (refine' Pk.cons ?q1x10 (Pk.cons ?q2x10 (Pk.cons ?q3x10 (Pk.cons ?q4x10 Pk.nil))); (case q1x10 => kbt_split); (case q2x10 => kbt_split); (case q3x10 => kbt_split); (case q4x10 => kbt_split))); (case a1x10 => assumption); (case a2x10 => k_asm); (case a3x10 => assumption); (case a4x10 => k_asm); (case a5x10 => assumption); (case a6x10 => k_all); (case a7x10 => k_all); (case a8x10 => k_ne); (case a9x10 => k_ne); (case a10x10 => k_ne); (case a11x10 => k_ne); (case a12x10 => k_ne); (case hdx10 => ktr_room); (case hux10 => ktr_units)); intro _ _ _ _ _ _ _ _ _ _ _ _; (try dsimp only); (try k_steps)) | (k_dflt (refine' does_use ?Bx11 ?Fx11 ?Xx11 ?Nx11 ?Tx11 ?hkx11 functors_spec ?pkx11 ?hdx11 ?hux11 ?_; (case Bx11 => k_asm); (case Fx11 => k_asm); (case Xx11 => k_asm); (case Nx11 => k_asm); (case Tx11 => k_asm); (case hkx11 => first | exact rfl | assumption); (case pkx11 => exact Pk.nil); (case hdx11 => ktr_room); (case hux11 => ktr_units)); intro _ _ _ _ _ _ _ _ _ _; (try dsimp only); (try k_steps)) | (k_dflt (refine' does_use ?Bx12 ?Fx12 ?Xx12 ?Nx12 ?Tx12 ?hkx12 (atom_spec ?a1x12 ?a2x12 ?a3x12 ?a4x12 ?a5x12 ?a6x12 ?a7x12 ?a8x12 ?a9x12 ?a10x12 ?a11x12 ?a12x12) ?pkx12 ?hdx12 ?hux12 ?_; (case Bx12 => k_asm); (case Fx12 => k_asm); (case Xx12 => k_asm); (case Nx12 => k_asm); (case Tx12 => k_asm); (case hkx12 => first | exact rfl | assumption); (case pkx12 => (refine' Pk.cons ?q1x12 (Pk.cons ?q2x12 (Pk.cons ?q3x12 (Pk.cons ?q4x12 Pk.nil))); (case q1x12 => kbt_split); (case q2x12 => kbt_split); (case q3x12 => kbt_split); (case q4x12 => kbt_split))); (case a1x12 => k_asm); (case a2x12 => k_asm); (case a3x12 => k_asm); (case a4x12 => k_asm); (case a5x12 => k_asm); (case a6x12 => k_all); (case a7x12 => k_all); (case a8x12 => k_ne); (case a9x12 => k_ne); (case a10x12 => k_ne); (case a11x12 => k_ne); (case a12x12 => k_ne); (case hdx12 => ktr_room); (case hux12 => ktr_units)); intro _ _ _ _ _ _ _ _ _ _ _ _ _ _ _; (try dsimp only); (try k_steps)))))
    rename_i a9 vs9 rl9 hR9 hA9 l9 _ _ I2 l2
    obtain ⟨rr, hrr⟩ : ∃ rr : Led, rr = (a9, tupO vs9) :: (rl9 ++ (D, tupO vs0) :: rest) := ⟨_, rfl⟩
    have o1 : Off lt rr := by subst hrr; exact off1 (ne_app l9 (o := _) (by k_mem)) (offApp (hA9.off (o := _) (by k_mem)) (off1 r5 r1))
    have o2 : Off dn rr := by subst hrr; exact off1 (ne_app l9 (o := _) (by k_mem)) (offApp (hA9.off (o := _) (by k_mem)) (off1 r6 r2))
    have o4 : Off lf rr := by subst hrr; exact off1 (ne_app l9 (o := _) (by k_mem)) (offApp (hA9.off (o := _) (by k_mem)) (off1 r7 r3))
    have o5 : Off dg rr := by subst hrr; exact off1 (ne_app l9 (o := _) (by k_mem)) (offApp (hA9.off (o := _) (by k_mem)) (off1 r8 r4))
    have o6 : Off I2 rr := by
      subst hrr
      refine allLt_ne (AllLt.sub l2 (subT fun p hp => ?_))
      rcases List.mem_append.mp hp with hp | hp
      · exact List.mem_append_left _ hp
      · exact List.mem_append_right _ (by (repeat (first | exact hp | apply List.Mem.tail)))
    have hrest : ∀ p ∈ rest, p ∈ rr := by
      subst hrr
      exact fun p hp => .tail _ (List.mem_append_right _ (.tail _ hp))
    have hm2 : (a9, tupO vs9) ∈ rr := by subst hrr; exact .head _
    have hRr : RowsAre rr vs9 (R32.drop 0) := by subst hrr; exact hR9.mono fun p hp => .tail _ (List.mem_append_left _ hp)
    have q1 : @Ne Nat x' I2 := (gt_ne l2 (.tail _ (List.mem_append_right _ (by k_mem)))).symm
    have q2 : @Ne Nat d' I2 := (gt_ne l2 (.tail _ (List.mem_append_right _ (by k_mem)))).symm
    have q3 : @Ne Nat lt I2 := (gt_ne l2 (.tail _ (List.mem_append_right _ (by k_mem)))).symm
    have q4 : @Ne Nat dn I2 := (gt_ne l2 (.tail _ (List.mem_append_right _ (by k_mem)))).symm
    have q5 : @Ne Nat lf I2 := (gt_ne l2 (.tail _ (List.mem_append_right _ (by k_mem)))).symm
    have q6 : @Ne Nat dg I2 := (gt_ne l2 (.tail _ (List.mem_append_right _ (by k_mem)))).symm
    refine rest_go (SymJ2 w x' d' lt dn lf dg I2 H (a9, tupO vs9) rest) ((x', instObj 122 d') :: (d', symDict H lt dn lf dg) :: (lt, listOf vs.toArray nt) :: (dn, on) :: (lf, listOf ([] : List Value).toArray 0) :: (dg, og) :: rr) ?sub (.mk [] 0 og rr vs nt on kvs rfl hs hd hf hRr (by decide) (fun h => absurd h (by decide)) (TupTab.ofEmpty (.head _) log hiog) o1 o2 o4 o5 o6 hm2 hrest rfl) ?off ?turn ?done
    case sub =>
      rw [hrr]
      refine sub1 (.tail _ (List.mem_append_right _ (by k_mem))) (sub1 (.tail _ (List.mem_append_right _ (by k_mem))) (sub1 (.tail _ (List.mem_append_right _ (by k_mem))) (sub1 (.tail _ (List.mem_append_right _ (by k_mem))) (sub1 (.tail _ (List.mem_append_right _ (by k_mem))) (sub1 (.tail _ (List.mem_append_right _ (by k_mem))) (subT fun p hp => ?_))))))
      rcases List.mem_append.mp hp with hp | hp
      · exact List.mem_append_left _ hp
      · exact List.mem_append_right _ (by (repeat (first | exact hp | apply List.Mem.tail)))
    case off => k_all
    case turn =>
      clear hrr o1 o2 o4 o5 o6 hrest hm2 hRr hR9 hA9 l9 l2 hs hd hf
      intro v r m nx h tk it hJ hoffI hcls F N
      obtain ⟨Fs, nf, og', rr', vs', nt, on', kvs', hm, hs', hd', hf', hRr', h32, h17, hTT, o1, o2, o4, o5, o6, hlp, hrest, hnx⟩ := hJ
      obtain ⟨ra, t, rtk, rtn, k, hv, hra, hRr2, hlt, hin, hkey⟩ := rows_cons hRr'
      have henc : enc32 Fs.length = encTuple PyData.int [((F29.idxOf t : Nat) : Int), k] := by unfold enc32; rw [hkey]
      have hfr := fresh32 _ hlt
      rw [henc] at hfr
      have hln := len32 _ (show Fs.length < 33 by omega)
      subst hv
      rw [name_form hm] at F
      subst hnx
      (k_steps; (repeat' (unfold Stop; first | (k_dflt (refine' does_use ?Bx13 ?Fx13 ?Xx13 ?Nx13 ?Tx13 ?hkx13 (functor_spec (D := DDn _) ?a1x13 ?a2x13 ?a3x13 ?a4x13 ?a5x13 ?a6x13 ?a7x13 ?a8x13 ?a9x13 ?a10x13 ?a11x13 ?a12x13) ?pkx13 ?hdx13 ?hux13 ?_; (case Bx13 => k_asm); (case Fx13 => k_asm); (case Xx13 => k_asm); (case Nx13 => k_asm); (case Tx13 => k_asm); (case hkx13 => first | exact rfl | assumption); (case pkx13 => (refine' Pk.cons ?q1x13 (Pk.cons ?q2x13 (Pk.cons ?q3x13 (Pk.cons ?q4x13 Pk.nil))); (case q1x13 => kbt_split); (case q2x13 => kbt_split); (case q3x13 => kbt_split); (case q4x13 => kbt_split))); (case a1x13 => assumption); (case a2x13 => omega); (case a3x13 => omega); (case a4x13 => k_all); (case a5x13 => k_all); (case a6x13 => k_ne); (case a7x13 => k_ne); (case a8x13 => k_ne); (case a9x13 => k_ne); (case a10x13 => k_ne); (case a11x13 => assumption); (case a12x13 => ksw_less); (case hdx13 => ktr_room); (case hux13 => ktr_units)); intro _ _ _ _ _ _ _ _ _; (try dsimp only); (try k_steps)) | (k_dflt (refine' does_use ?Bx14 ?Fx14 ?Xx14 ?Nx14 ?Tx14 ?hkx14 (atom29 ?a1x14 ?a2x14 ?a3x14 ?a4x14 ?a5x14 ?a6x14 ?a7x14 ?a8x14 ?a9x14 ?a10x14 ?a11x14 ?a12x14) ?pkx14 ?hdx14 ?hux14 ?_; (case Bx14 => k_asm); (case Fx14 => k_asm); (case Xx14 => k_asm); (case Nx14 => k_asm); (case Tx14 => k_asm); (case hkx14 => first | exact rfl | assumption); (case pkx14 => (refine' Pk.cons ?q1x14 (Pk.cons ?q2x14 (Pk.cons ?q3x14 (Pk.cons ?q4x14 Pk.nil))); (case q1x14 => kbt_split); (case q2x14 => kbt_split); (case q3x14 => kbt_split); (case q4x14 => kbt_split))); (case a1x14 => assumption); (case a2x14 => k_asm); (case a3x14 => assumption); (case a4x14 => k_asm); (case a5x14 => assumption); (case a6x14 => k_all); (case a7x14 => k_all); (case a8x14 => k_ne); (case a9x14 => k_ne); (case a10x14 => k_ne); (case a11x14 => k_ne); (case a12x14 => k_ne); (case hdx14 => ktr_room); (case hux14 => ktr_units)); intro _ _ _ _ _ _ _ _ _ _ _ _; (try dsimp only); (try k_steps)) | (k_dflt (refine' does_use ?Bx15 ?Fx15 ?Xx15 ?Nx15 ?Tx15 ?hkx15 functors_spec ?pkx15 ?hdx15 ?hux15 ?_; (case Bx15 => k_asm); (case Fx15 => k_asm); (case Xx15 => k_asm); (case Nx15 => k_asm); (case Tx15 => k_asm); (case hkx15 => first | exact rfl | assumption); (case pkx15 => exact Pk.nil); (case hdx15 => ktr_room); (case hux15 => ktr_units)); intro _ _ _ _ _ _ _ _ _ _; (try dsimp only); (try k_steps)) | (k_dflt (refine' does_use ?Bx16 ?Fx16 ?Xx16 ?Nx16 ?Tx16 ?hkx16 (atom_spec ?a1x16 ?a2x16 ?a3x16 ?a4x16 ?a5x16 ?a6x16 ?a7x16 ?a8x16 ?a9x16 ?a10x16 ?a11x16 ?a12x16) ?pkx16 ?hdx16 ?hux16 ?_; (case Bx16 => k_asm); (case Fx16 => k_asm); (case Xx16 => k_asm); (case Nx16 => k_asm); (case Tx16 => k_asm); (case hkx16 => first | exact rfl | assumption); (case pkx16 => (refine' Pk.cons ?q1x16 (Pk.cons ?q2x16 (Pk.cons ?q3x16 (Pk.cons ?q4x16 Pk.nil))); (case q1x16 => kbt_split); (case q2x16 => kbt_split); (case q3x16 => kbt_split); (case q4x16 => kbt_split))); (case a1x16 => k_asm); (case a2x16 => k_asm); (case a3x16 => k_asm); (case a4x16 => k_asm); (case a5x16 => k_asm); (case a6x16 => k_all); (case a7x16 => k_all); (case a8x16 => k_ne); (case a9x16 => k_ne); (case a10x16 => k_ne); (case a11x16 => k_ne); (case a12x16 => k_ne); (case hdx16 => ktr_room); (case hux16 => ktr_units)); intro _ _ _ _ _ _ _ _ _ _ _ _ _ _ _; (try dsimp only); (try k_steps)))))
      rename TupTab _ _ _ _ _ => hT9
      rename AllLt _ _ => l9
      rename Fr _ _ _ _ => lF
      rename News _ _ _ _ => lN
      rename_i tk9 vs9 nt9 on9 kv9 hs9 hd9 hf9 _ _ _ _ _ ka og9 _ _ _ _ _ _
      have hln1 : (Fs ++ [Value.ref ka]).length = Fs.length + 1 := by simp
      refine turn_sub lF lN ?sub ?off2 ?mem (.mk (Fs ++ [Value.ref ka]) (nf + 1) og9 ((ka, tupO [.int ((F29.idxOf t : Nat) : Int) tk9, .int k rtn]) :: rr') vs9 nt9 on9 kv9 rfl hs9 hd9 hf9 ?a1 ?a2 ?a3 ?a4 (off1 ?c1 o1) (off1 ?c2 o2) (off1 ?c3 o4) (off1 ?c4 o5) (off1 ?c5 o6) (.tail _ hlp) (fun p hp => .tail _ (hrest p hp)) rfl)
      case sub => ksw_less
      case off2 => k_all
      case mem => exact (by (repeat (first | exact hlp | apply List.Mem.tail)))
      case c1 => k_ne
      case c2 => k_ne
      case c3 => k_ne
      case c4 => k_ne
      case c5 => k_ne
      case a1 => rw [hln1]; exact hRr2.mono fun p hp => .tail _ hp
      case a2 => omega
      case a3 =>
        intro h18
        rw [hln1] at h18
        by_cases he : Fs.length = 17
        · rw [he, key17] at hkey
          obtain ⟨e1, e2⟩ := Prod.mk.inj hkey
          exact ⟨ka, tk9, rtn, by rw [List.getElem?_append_right (by omega), he]; rfl, by rw [← e1, ← e2]; exact .head _⟩
        · obtain ⟨k17, t1, t2, g1, g2⟩ := h17 (by omega)
          exact ⟨k17, t1, t2, by rw [List.getElem?_append_left (by omega)]; exact g1, .tail _ g2⟩
      case a4 =>
        rw [hln1]
        show TupTab _ _ _ _ (putD (enc32 Fs.length) _ _)
        rw [henc]
        exact hT9
    case done =>
      clear hrr o1 o2 o4 o5 o6 hrest hm2 hRr hR9 hA9 l9 l2 hs hd hf
      intro m nx h tk hJ F N
      obtain ⟨Fs, nf, og', rr', vs', nt, on', kvs', hm, hs', hd', hf', hRr', h32, h17, hTT, o1, o2, o4, o5, o6, hlp, hrest, hnx⟩ := hJ
      have hn32 : 17 < Fs.length := by
        rcases Nat.lt_or_ge Fs.length 32 with h1 | h1
        · rw [List.drop_eq_getElem_cons (show Fs.length < R32.length from h1)] at hRr'
          cases hRr'
        · omega
      obtain ⟨k17, t1, t2, g1, g2⟩ := h17 hn32
      rw [name_form hm] at F
      subst hnx
      (k_steps; (repeat' (unfold Stop; first | (k_dflt (refine' does_use ?Bx17 ?Fx17 ?Xx17 ?Nx17 ?Tx17 ?hkx17 (functor_spec (D := DDn _) ?a1x17 ?a2x17 ?a3x17 ?a4x17 ?a5x17 ?a6x17 ?a7x17 ?a8x17 ?a9x17 ?a10x17 ?a11x17 ?a12x17) ?pkx17 ?hdx17 ?hux17 ?_; (case Bx17 => k_asm); (case Fx17 => k_asm); (case Xx17 => k_asm); (case Nx17 => k_asm); (case Tx17 => k_asm); (case hkx17 => first | exact rfl | assumption); (case pkx17 => (refine' Pk.cons ?q1x17 (Pk.cons ?q2x17 (Pk.cons ?q3x17 (Pk.cons ?q4x17 Pk.nil))); (case q1x17 => kbt_split); (case q2x17 => kbt_split); (case q3x17 => kbt_split); (case q4x17 => kbt_split))); (case a1x17 => assumption); (case a2x17 => omega); (case a3x17 => omega); (case a4x17 => k_all); (case a5x17 => k_all); (case a6x17 => k_ne); (case a7x17 => k_ne); (case a8x17 => k_ne); (case a9x17 => k_ne); (case a10x17 => k_ne); (case a11x17 => assumption); (case a12x17 => ksw_less); (case hdx17 => ktr_room); (case hux17 => ktr_units)); intro _ _ _ _ _ _ _ _ _; (try dsimp only); (try k_steps)) | (k_dflt (refine' does_use ?Bx18 ?Fx18 ?Xx18 ?Nx18 ?Tx18 ?hkx18 (atom29 ?a1x18 ?a2x18 ?a3x18 ?a4x18 ?a5x18 ?a6x18 ?a7x18 ?a8x18 ?a9x18 ?a10x18 ?a11x18 ?a12x18) ?pkx18 ?hdx18 ?hux18 ?_; (case Bx18 => k_asm); (case Fx18 => k_asm); (case Xx18 => k_asm); (case Nx18 => k_asm); (case Tx18 => k_asm); (case hkx18 => first | exact rfl | assumption); (case pkx18 => (refine' Pk.cons ?q1x18 (Pk.cons ?q2x18 (Pk.cons ?q3x18 (Pk.cons ?q4x18 Pk.nil))); (case q1x18 => kbt_split); (case q2x18 => kbt_split); (case q3x18 => kbt_split); (case q4x18 => kbt_split))); (case a1x18 => assumption); (case a2x18 => k_asm); (case a3x18 => assumption); (case a4x18 => k_asm); (case a5x18 => assumption); (case a6x18 => k_all); (case a7x18 => k_all); (case a8x18 => k_ne); (case a9x18 => k_ne); (case a10x18 => k_ne); (case a11x18 => k_ne); (case a12x18 => k_ne); (case hdx18 => ktr_room); (case hux18 => ktr_units)); intro _ _ _ _ _ _ _ _ _ _ _ _; (try dsimp only); (try k_steps)) | (k_dflt (refine' does_use ?Bx19 ?Fx19 ?Xx19 ?Nx19 ?Tx19 ?hkx19 functors_spec ?pkx19 ?hdx19 ?hux19 ?_; (case Bx19 => k_asm); (case Fx19 => k_asm); (case Xx19 => k_asm); (case Nx19 => k_asm); (case Tx19 => k_asm); (case hkx19 => first | exact rfl | assumption); (case pkx19 => exact Pk.nil); (case hdx19 => ktr_room); (case hux19 => ktr_units)); intro _ _ _ _ _ _ _ _ _ _; (try dsimp only); (try k_steps)) | (k_dflt (refine' does_use ?Bx20 ?Fx20 ?Xx20 ?Nx20 ?Tx20 ?hkx20 (atom_spec ?a1x20 ?a2x20 ?a3x20 ?a4x20 ?a5x20 ?a6x20 ?a7x20 ?a8x20 ?a9x20 ?a10x20 ?a11x20 ?a12x20) ?pkx20 ?hdx20 ?hux20 ?_; (case Bx20 => k_asm); (case Fx20 => k_asm); (case Xx20 => k_asm); (case Nx20 => k_asm); (case Tx20 => k_asm); (case hkx20 => first | exact rfl | assumption); (case pkx20 => (refine' Pk.cons ?q1x20 (Pk.cons ?q2x20 (Pk.cons ?q3x20 (Pk.cons ?q4x20 Pk.nil))); (case q1x20 => kbt_split); (case q2x20 => kbt_split); (case q3x20 => kbt_split); (case q4x20 => kbt_split))); (case a1x20 => k_asm); (case a2x20 => k_asm); (case a3x20 => k_asm); (case a4x20 => k_asm); (case a5x20 => k_asm); (case a6x20 => k_all); (case a7x20 => k_all); (case a8x20 => k_ne); (case a9x20 => k_ne); (case a10x20 => k_ne); (case a11x20 => k_ne); (case a12x20 => k_ne); (case hdx20 => ktr_room); (case hux20 => ktr_units)); intro _ _ _ _ _ _ _ _ _ _ _ _ _ _ _; (try dsimp only); (try k_steps)))))
      rename Fr _ _ _ _ => lF
      rename News _ _ _ _ => lN
      refine hret x' d' lt dn lf dg k17 H nt nf vs' Fs on' kvs' t1 t2 ((lf, listOf Fs.toArray nf) :: rr') hs' hd' hf' lon g1 (.head _) (.tail _ g2) (fun p hp => .tail _ (hrest p hp)) (off1 n11.symm o1) (off1 n12.symm o2) n1 n2 n3 n4 n5 _ _ lF (cb_drop lN ?_)
      exact subT (subT (subT (subT (subT sub2x))))
end
example : True ∧ True := by
  try walk1
  repeat (first | trivial | constructor)
section
-- part A3

theorem valueAt_stored_ne {kvs : List (Int × Value)} {k j : Int} {v : Value} (h : k ≠ j) : valueAt (stored kvs k v) j = valueAt kvs j := by
  have aux : ∀ l : List (Int × Value), valueAt (l.map fun kv => if kv.1 = k then (kv.1, v) else kv) j = valueAt l j := by
    intro l
    induction l with
    | nil => rfl
    | cons q l ih =>
      unfold valueAt at ih ⊢
      by_cases h1 : q.1 = k
      · have h2 : q.1 ≠ j := h1 ▸ h
        simp only [List.map_cons, h1, if_true, List.find?_cons, decide_eq_false h]
        exact ih
      · by_cases h2 : q.1 = j
        · rw [List.map_cons, if_neg h1, List.find?_cons_of_pos (by simpa using h2), List.find?_cons_of_pos (by simpa using h2)]
        · simp only [List.map_cons, h1, if_false, List.find?_cons, decide_eq_false h2]
          exact ih
  unfold stored
  split
  · exact aux kvs
  · unfold valueAt
    rw [List.find?_append]
    simp [h]
theorem in_top {w : World} {A : Around} {E : Value → Shared → Prop} {s : Shared} {t : Addr} {items : Array Value} {ys : List Str} {x : Str} {u : Tok} {Q : Value → Shared → Prop} (b : Bool)
    (ht : IsTup s.heap t items) (hi : StrsAre items.toList ys) (hb : ys.any (· == x) = b) (h : Q (.bool b) s) : wpAny (model P0 w) A (compareOp .In (.str x u) (.ref t)) Q E s :=
  in_tuple_strs ht hi (by rw [hb]; exact h)
local macro_rules | `(tactic| walk_at "compareOp In str ref") => `(tactic| (k_here; k_dflt (first | refine in_top true (kun_topT (by k_asm) (by k_asm) (by k_is)) (by (repeat constructor)) (by decide) ?_ | refine in_top false (kun_topT (by k_asm) (by k_asm) (by k_is)) (by (repeat constructor)) (by decide) ?_)))
/-- the hashes and the count of an OperatorTable's dict -/
structure OpsH where
  (a b c d : Int) (e f g h : Tok) (n : Nat)
noncomputable abbrev opsDict (H : OpsH) (x bp bi bq : Nat) : Obj :=
  dictOf [⟨H.a, .str (Str.ofString "symbols") H.e, .ref x⟩, ⟨H.b, .str (Str.ofString "prefixes") H.f, .ref bp⟩, ⟨H.c, .str (Str.ofString "infixes") H.g, .ref bi⟩, ⟨H.d, .str (Str.ofString "postfixes") H.h, .ref bq⟩] H.n
noncomputable def Kinds5 : List Str := [Str.ofString "fx", Str.ofString "fy", Str.ofString "xfx", Str.ofString "xfy", Str.ofString "yfx"]
theorem str_eq {a b : Str} {t : Tok} (h : a = b) : Value.str a t = Value.str b t := by rw [h]
noncomputable def isPre (t : Str) : Bool := t == Str.ofString "fx" || t == Str.ofString "fy"
noncomputable def fixT (t : Str) : Str := if isPre t = true then Str.ofString "prefix" else Str.ofString "infix"
set_option maxHeartbeats 8000000 in
theorem fixity_spec {w : World} {mean : ExcName → Option Value} {mg mb : Str → Option Value} {rest : Led} {t : Str} {tt : Tok} (ht : t ∈ Kinds5) : Does 1 w mean mg mb 213 [.str t tt] rest (fun K => ∀ tk, K (.str (fixT t) tk) rest) := by
  unfold Does
  intro dp un gd cn cs fa ccd cl outer A₀ base h₀ L m s Q E B F X N Tp hk hd hu hret
  unfold Kinds5 at ht
  simp only [List.mem_cons, List.not_mem_nil, or_false] at ht
  rcases ht with rfl | rfl | rfl | rfl | rfl
  · rw [show fixT (Str.ofString "fx") = Str.ofString "prefix" from by decide +kernel] at hret
    refine wpAny_call ?_
    k_dflt cell_enter
    k_steps
    rename Fr _ _ _ _ => kF
    rename News _ _ _ _ => kN
    exact hret _ _ _ kF kN
  · rw [show fixT (Str.ofString "fy") = Str.ofString "prefix" from by decide +kernel] at hret
    refine wpAny_call ?_
    k_dflt cell_enter
    k_steps
    rename Fr _ _ _ _ => kF
    rename News _ _ _ _ => kN
    exact hret _ _ _ kF kN
  · rw [show fixT (Str.ofString "xfx") = Str.ofString "infix" from by decide +kernel] at hret
    refine wpAny_call ?_
    k_dflt cell_enter
    k_steps
    rename Fr _ _ _ _ => kF
    rename News _ _ _ _ => kN
    exact hret _ _ _ kF kN
  · rw [show fixT (Str.ofString "xfy") = Str.ofString "infix" from by decide +kernel] at hret
    refine wpAny_call ?_
    k_dflt cell_enter
    k_steps
    rename Fr _ _ _ _ => kF
    rename News _ _ _ _ => kN
    exact hret _ _ _ kF kN
  · rw [show fixT (Str.ofString "yfx") = Str.ofString "infix" from by decide +kernel] at hret
    refine wpAny_call ?_
    k_dflt cell_enter
    k_steps
    rename Fr _ _ _ _ => kF
    rename News _ _ _ _ => kN
    exact hret _ _ _ kF kN
theorem fixT_pre (t : Str) : (fixT t == Str.ofString "prefix") = isPre t := by
  unfold fixT
  cases isPre t
  · rw [if_neg (by decide)]; decide +kernel
  · rw [if_pos rfl]; decide +kernel
theorem fixT_in (t : Str) : (fixT t == Str.ofString "infix") = !isPre t := by
  unfold fixT
  cases isPre t
  · rw [if_neg (by decide)]; decide +kernel
  · rw [if_pos rfl]; decide +kernel
set_option maxHeartbeats 8000000 in
theorem table_spec {w : World} {mean : ExcName → Option Value} {mg mb : Str → Option Value} {rest : Led} {y dy bp bi bq x : Nat} {H : OpsH} {t : Str} {tt : Tok} (ht : t ∈ Kinds5) :
    Does 3 w mean mg mb 270 [.ref y, .str t tt] ((y, instObj 287 dy) :: (dy, opsDict H x bp bi bq) :: rest) (fun K => (isPre t = true → K (.ref bp) ((y, instObj 287 dy) :: (dy, opsDict H x bp bi bq) :: rest)) ∧ (isPre t = false → K (.ref bi) ((y, instObj 287 dy) :: (dy, opsDict H x bp bi bq) :: rest))) := by
  unfold Does
  intro dp un gd cn cs fa ccd cl outer A₀ base h₀ L m s Q E B F X N Tp hk hd hu hret
  obtain ⟨h1, h2⟩ := hret
  refine wpAny_call ?_
  k_dflt cell_enter
  (k_steps; (repeat' (unfold Stop; first | (k_dflt (refine' does_use ?Bx1 ?Fx1 ?Xx1 ?Nx1 ?Tx1 ?hkx1 (fixity_spec ?a1x1) ?pkx1 ?hdx1 ?hux1 ?_; (case Bx1 => k_asm); (case Fx1 => k_asm); (case Xx1 => k_asm); (case Nx1 => k_asm); (case Tx1 => k_asm); (case hkx1 => first | exact rfl | assumption); (case pkx1 => exact Pk.nil); (case a1x1 => assumption); (case hdx1 => ktr_room); (case hux1 => ktr_units)); intro _ _ _ _ _; all_goals ((try dsimp only); (try k_steps))))))
  · rename (fixT t == _) = true => e
    rename Fr _ _ _ _ => kF
    rename News _ _ _ _ => kN
    exact h1 (fixT_pre t ▸ e) _ _ kF kN
  · rename (fixT t == Str.ofString "prefix") = false => e
    rename Fr _ _ _ _ => kF
    rename News _ _ _ _ => kN
    exact h2 (fixT_pre t ▸ e) _ _ kF kN
  · rename (fixT t == Str.ofString "prefix") = false => e
    rename (fixT t == Str.ofString "infix") = false => e2
    rw [fixT_pre] at e
    rw [fixT_in, e] at e2
    cases e2
local macro_rules | `(tactic| walk_at "setItem ref int") => `(tactic| (k_here; k_dflt (refine' kda_set (knd := PySem.intKind _ _) ?F ?N ?U ?d (intKind_is _ _ _ _) ?z ?_; (case F => k_asm); (case N => k_asm); (case U => k_updF); (case d => k_asm); (case z => (rw [sizeLine_eq]; omega))); intro h9 o9 F9 N9 hd9; (try dsimp only at N9)))
set_option maxHeartbeats 8000000 in
theorem add_spec {w : World} {mean : ExcName → Option Value} {mg mb : Str → Option Value} {rest : Led} {y dy bp bi bq x : Nat} {H : OpsH} {n : Nat} {op oi : Obj} {kp ki : List (Int × Value)} {p a : Int} {t : Str} {tp tt ta : Tok}
    (hp : op.IsDictOf (PySem.intKind P0 w) kp) (hi : oi.IsDictOf (PySem.intKind P0 w) ki) (hnp : valueAt kp 26 = none) (hlp : kp.length ≤ n) (hli : ki.length ≤ n) (hn : n ≤ 10000)
    (hp0 : 0 < p) (ht : t ∈ Kinds5) (ha : a ≠ 26) (o1 : Off bp rest) (o2 : Off bi rest) (n1 : y ≠ bp) (n2 : dy ≠ bp) (n3 : bi ≠ bp) (n4 : y ≠ bi) (n5 : dy ≠ bi) :
    Does 4 w mean mg mb 277 [.ref y, .int p tp, .str t tt, .int a ta] ((y, instObj 287 dy) :: (dy, opsDict H x bp bi bq) :: (bp, op) :: (bi, oi) :: rest)
      (fun K => ∀ op' oi' kp' ki', op'.IsDictOf (PySem.intKind P0 w) kp' → oi'.IsDictOf (PySem.intKind P0 w) ki' → valueAt kp' 26 = none → kp'.length ≤ n + 1 → ki'.length ≤ n + 1 →
        K .none ((y, instObj 287 dy) :: (dy, opsDict H x bp bi bq) :: (bp, op') :: (bi, oi') :: rest)) := by
  unfold Does
  intro dp un gd cn cs fa ccd cl outer A₀ base h₀ L m s Q E B F X N Tp hk hd hu hret
  have hlp' : kp.length ≤ 10000 := Nat.le_trans hlp hn
  have hli' : ki.length ≤ 10000 := Nat.le_trans hli hn
  refine wpAny_call ?_
  k_dflt cell_enter
  (k_steps; (repeat' (unfold Stop; first | (k_dflt (refine' does_use ?Bx2 ?Fx2 ?Xx2 ?Nx2 ?Tx2 ?hkx2 (table_spec ?a1x2) ?pkx2 ?hdx2 ?hux2 ⟨?_, ?_⟩; (case Bx2 => k_asm); (case Fx2 => k_asm); (case Xx2 => k_asm); (case Nx2 => k_asm); (case Tx2 => k_asm); (case hkx2 => first | exact rfl | assumption); (case pkx2 => (refine' Pk.cons ?q1x2 (Pk.cons ?q2x2 Pk.nil); (case q1x2 => kbt_split); (case q2x2 => kbt_split))); (case a1x2 => assumption); (case hdx2 => ktr_room); (case hux2 => ktr_units)); all_goals (intro _ _ _ _ _); all_goals ((try dsimp only); (try k_steps))))))
  · rename Obj.IsDictOf _ _ (stored kp a _) => hd9
    rename Fr _ _ _ _ => kF
    rename News _ _ _ _ => kN
    exact hret _ oi (stored kp a _) ki hd9 hi (by rw [valueAt_stored_ne ha]; exact hnp) (Nat.le_trans (stored_length_le _ _ _) (Nat.succ_le_succ hlp)) (Nat.le_succ_of_le hli) _ _ kF (kti_tail kN)
  · rename Obj.IsDictOf _ _ (stored ki a _) => hd9
    rename Fr _ _ _ _ => kF
    rename News _ _ _ _ => kN
    exact hret op _ kp (stored ki a _) hp hd9 hnp (Nat.le_succ_of_le hlp) (Nat.le_trans (stored_length_le _ _ _) (Nat.succ_le_succ hli)) _ _ kF (kti_tail kN)
noncomputable def GoodRow (p : Int) (t : Str) (ns : List Str) : Prop := 0 < p ∧ t ∈ Kinds5 ∧ (∀ s ∈ ns, s ≠ Str.ofString "$VAR") ∧ ns.length ≤ 10
inductive RowsGood (led : Led) : List Value → Prop
  | nil : RowsGood led []
  | cons {a nm : Addr} {p : Int} {t : Str} {ns : List Str} {tp tt : Tok} {vs us : List Value} : (a, tupO [.int p tp, .str t tt, .ref nm]) ∈ led → (nm, tupO us) ∈ led → StrsAre us ns → GoodRow p t ns → RowsGood led vs → RowsGood led (.ref a :: vs)
theorem RowsGood.mono {led led' : Led} {vs : List Value} (h : RowsGood led vs) (hs : ∀ p ∈ led, p ∈ led') : RowsGood led' vs := by
  induction h with
  | nil => exact .nil
  | cons h1 h2 h3 h4 _ ih => exact .cons (hs _ h1) (hs _ h2) h3 h4 ih
inductive RowE : List PySem.Expr → Nat → Prop
  | nil : RowE [] 0
  | cons {p : Int} {t : Str} {ns : List Str} {k k2 k3 k4 n : Nat} {p1 p2 p3 p4 : Pos} {es rest : List PySem.Expr} : StrE es ns → GoodRow p t ns → RowE rest n → RowE (.Tuple [.Constant (.int p) k p1, .Constant (.str t) k2 p2, .Tuple es k3 p3] k4 p4 :: rest) (n + 1)
theorem rows_walk {prog : Program} {w : World} {A : Around} {E : Value → Shared → Prop} {env : Env} {pos : Pos} {h₀ : Heap} {L : Addr} {m : Str → Option Value} {es : List PySem.Expr} {n : Nat} (hp : RowE es n) : ∀ {s : Shared} {news : Led} {Q : List Value → Shared → Prop}, Fr h₀ L s.heap m → News h₀ L s.heap news →
    (∀ vs rl h' tk, Fr h₀ L h' m → News h₀ L h' (rl ++ news) → RowsGood rl vs → vs.length = n → Above rl news → Q vs { s with heap := h', toks := tk }) → wpAny (model prog w) A (spliced (backTo pos (starEach es env))) Q E s := by
  induction hp with
  | nil => intro s news Q F N h; exact args_nil (h [] [] s.heap s.toks F N .nil rfl .nil)
  | cons hs hg _ ih =>
    intro s news Q F N h
    refine args_cons (Tuple_ (args_cons (wpAny_Constant_int (args_cons (Constant_str (args_cons (Tuple_ (strs_walk hs fun us tk hu => ?_))))))))
    have hul : us.length ≤ 10 := by rw [hu.length]; exact hg.2.2.2
    refine kup_newTuple F N (fun D1 h1 F1 N1 l1 => ?_) (by rw [sizeLine_eq]; omega)
    refine args_nil (kup_newTuple F1 N1 (fun D2 h2 F2 N2 l2 => ?_) (by rw [sizeLine_eq]; exact Nat.le_of_ble_eq_true rfl))
    refine ih F2 N2 fun vs rl h3 tk3 F3 N3 hR hl hA => ?_
    refine h (.ref D2 :: vs) (rl ++ [(D2, _), (D1, _)]) h3 tk3 F3 (by rw [List.append_assoc]; exact N3) (.cons (List.mem_append_right _ (.head _)) (List.mem_append_right _ (.tail _ (.head _))) hu hg (hR.mono fun p hp => List.mem_append_left _ hp)) (by rw [List.length_cons, hl]) fun p hp => ?_
    rcases List.mem_append.mp hp with hp | hp
    · exact (hA p hp).2.2
    · rcases List.mem_cons.mp hp with rfl | hp
      · exact (allLt_of l2).2
      · rw [List.mem_singleton.mp hp]; exact allLt_of l1
local macro_rules | `(tactic| walk_at "spliced") => `(tactic| (k_here; refine' rows_walk ?hp ?pF ?pN ?_; (case hp => (repeat (first | exact RowE.nil | (apply RowE.cons; (repeat (first | exact StrE.nil | apply StrE.cons)); (unfold GoodRow; decide +kernel))))); (case pF => k_asm); (case pN => k_asm); intro vs9 rl9 h9 t9 F9 N9 hR9 hl9 hA9))
set_option maxHeartbeats 8000000 in
theorem rows13_spec {w : World} {mean : ExcName → Option Value} {mg mb : Str → Option Value} {rest : Led} :
    Does 2 w mean mg mb 206 [] rest (fun K => ∀ (a : Addr) (vs : List Value) (rl : Led), RowsGood rl vs → vs.length = 13 → Above rl rest → AllLt a (rl ++ rest) → K (.ref a) ((a, tupO vs) :: (rl ++ rest))) := by
  unfold Does
  intro dp un gd cn cs fa ccd cl outer A₀ base h₀ L m s Q E B F X N Tp hk hd hu hret
  refine wpAny_call ?_
  fold_lay
  k_steps
  rename RowsGood _ _ => hR9
  rename List.length _ = _ => hl9
  rename Above _ _ => hA9
  rename AllLt _ _ => l9
  rename Fr _ _ _ _ => kF
  rename News _ _ _ _ => kN
  exact hret _ _ _ hR9 hl9 hA9 l9 _ _ kF kN
end
example : True ∧ True := by
  try walk1
  repeat (first | trivial | constructor)
section
-- part A4

/-- texts that have grown from the fixed ones -/
noncomputable def TOk (T : List Str) : Prop := T[26]? = some (Str.ofString "$VAR") ∧ 29 ≤ T.length
theorem tok_f29 : TOk F29 := ⟨rfl, by decide⟩
theorem tok_atom {T T' : List Str} {t : Str} {i : Int} (h : TOk T) (ht : t ≠ Str.ofString "$VAR") (hA : AtomTo T t T' i) : TOk T' ∧ i ≠ 26 ∧ T'.length ≤ T.length + 1 ∧ 0 ≤ i ∧ T'[i.toNat]? = some t := by
  rcases hA with ⟨rfl, h0, hg⟩ | ⟨rfl, hn, rfl⟩
  · refine ⟨h, ?_, by omega, h0, hg⟩
    rintro rfl
    rw [show (26 : Int).toNat = 26 from rfl, h.1] at hg
    exact ht (Option.some.inj hg).symm
  · refine ⟨⟨?_, ?_⟩, ?_, ?_, ?_, ?_⟩
    · rw [List.getElem?_append_left (by have := h.2; omega)]; exact h.1
    · rw [List.length_append]; have := h.2; simp; omega
    · have := h.2; omega
    · simp
    · omega
    · simp
theorem atomG {w : World} {mean : ExcName → Option Value} {mg mb : Str → Option Value} {x dx bt bn bf bg : Nat} {H : SymH} {nt n : Nat} {vs : List Value} {T : List Str} {on : Obj} {kvs : List (Str × Value)} {rest : Led} {t : Str} {tt : Tok}
    (hs : StrsAre vs T) (hdn : on.IsDictOf (PySem.strKind P0 w) kvs) (hfp : FlatPairs PyData.str kvs (kdpD (tabOf T))) (hlo : (bn == sysModules) = false) (hT : TOk T) (hlen : T.length ≤ n) (hn : n ≤ 10000) (ht : t ≠ Str.ofString "$VAR")
    (o1 : Off bt rest) (o2 : Off bn rest) (n1 : x ≠ bt) (n2 : dx ≠ bt) (n3 : bn ≠ bt) (n4 : x ≠ bn) (n5 : dx ≠ bn) :
    Does 3 w mean mg mb 56 [.ref x, .str t tt] ((x, instObj 122 dx) :: (dx, symDict H bt bn bf bg) :: (bt, listOf vs.toArray nt) :: (bn, on) :: rest)
      (fun K => ∀ i tk T' vs' nt' on' kvs', i ≠ 26 → 0 ≤ i → T'[i.toNat]? = some t → TOk T' → T'.length ≤ n + 1 → AtomTo T t T' i → StrsAre vs' T' → on'.IsDictOf (PySem.strKind P0 w) kvs' → FlatPairs PyData.str kvs' (kdpD (tabOf T')) →
        K (.int i tk) ((x, instObj 122 dx) :: (dx, symDict H bt bn bf bg) :: (bt, listOf vs'.toArray nt') :: (bn, on') :: rest)) := by
  refine does_mono (atom_spec hs hdn hfp hlo (Nat.le_trans hlen hn) o1 o2 n1 n2 n3 n4 n5) fun K h i tk T' vs' nt' on' kvs' hA h1 h2 h3 => ?_
  obtain ⟨a1, a2, a3, a4, a5⟩ := tok_atom hT ht hA
  exact h i tk T' vs' nt' on' kvs' a2 a4 a5 a1 (Nat.le_trans a3 (Nat.succ_le_succ hlen)) hA h1 h2 h3
local macro_rules | `(tactic| walk_at "exec For Tuple Call cons nil") => `(tactic| (k_here; (rename Fr _ _ _ _ => lF'); (with_unfolding_all refine' For_turns lF' ?_; k_whole)))
local macro_rules | `(tactic| walk_at "exec For Name Name cons nil") => `(tactic| (k_here; (rename Fr _ _ _ _ => lF'); (with_unfolding_all refine' For_turns lF' ?_; k_whole)))
local macro_rules | `(tactic| walk_at "pyIter ref") => `(tactic| (k_here; (with_reducible show wpAny _ _ (pyIter (Value.ref _)) (fun it s₂ => TurnsAt _ _ _ _ _ _ _ _ _ it s₂) _ _); (rename Fr _ _ _ _ => lF'); (rename News _ _ _ _ => lN'); (with_unfolding_all refine iter_tup2 (by rfl) lF' lN' (by k_mem) ?_); clear lF' lN'; intro i' l1; (try k_lt l1)))
/-- what OperatorTable(book) gives -/
noncomputable def OpsRet (w : World) (x dx bt bn bf bg : Nat) (H : SymH) (rest : Led) (K : Value → Led → Prop) : Prop :=
  ∀ (y dy bp bi bq : Nat) (H2 : OpsH) (op oq : Obj) (kp : List (Int × Value)) (T : List Str) (vs : List Value) (nt : Nat) (on : Obj) (kvs : List (Str × Value)) (rr : Led), StrsAre vs T → on.IsDictOf (PySem.strKind P0 w) kvs → FlatPairs PyData.str kvs (kdpD (tabOf T)) → TOk T → T.length ≤ 170 →
    op.IsDictOf (PySem.intKind P0 w) kp → valueAt kp 26 = none → oq.IsDictOf (PySem.intKind P0 w) [] → (bp == sysModules) = false → (bq == sysModules) = false → (y, instObj 287 dy) ∈ rr → (dy, opsDict H2 x bp bi bq) ∈ rr → (bp, op) ∈ rr → (bq, oq) ∈ rr → (∀ p ∈ rest, p ∈ rr) → Off bt rr → Off bn rr →
    K (.ref y) ((x, instObj 122 dx) :: (dx, symDict H bt bn bf bg) :: (bt, listOf vs.toArray nt) :: (bn, on) :: rr)
inductive OpsJ1 (w : World) (x dx bt bn bf bg x' d' bp bi bq I : Nat) (H : SymH) (H2 : OpsH) (rr : Led) (r : List Value) (m : Str → Option Value) (nx : Led) : Prop
  | mk (n : Nat) (T : List Str) (vs : List Value) (nt : Nat) (on : Obj) (kvs : List (Str × Value)) (op oi : Obj) (kp ki : List (Int × Value)) : Has m [(Str.ofString "self", .ref x'), (Str.ofString "symbols", .ref x)] → StrsAre vs T → on.IsDictOf (PySem.strKind P0 w) kvs → FlatPairs PyData.str kvs (kdpD (tabOf T)) → TOk T → T.length ≤ n →
      op.IsDictOf (PySem.intKind P0 w) kp → oi.IsDictOf (PySem.intKind P0 w) ki → valueAt kp 26 = none → kp.length ≤ n → ki.length ≤ n → n + 10 * r.length ≤ 170 → RowsGood rr r → nx = (x', instObj 287 d') :: (d', opsDict H2 x bp bi bq) :: (bp, op) :: (bi, oi) :: (x, instObj 122 dx) :: (dx, symDict H bt bn bf bg) :: (bt, listOf vs.toArray nt) :: (bn, on) :: rr → OpsJ1 w x dx bt bn bf bg x' d' bp bi bq I H H2 rr r m nx
inductive OpsJ2 (w : World) (x dx bt bn bf bg x' d' bp bi bq k : Nat) (H : SymH) (H2 : OpsH) (p : Int) (tp tt : Tok) (t : Str) (rr : Led) (us : List Value) (m : Str → Option Value) (nx : Led) : Prop
  | mk (n : Nat) (ns : List Str) (T : List Str) (vs : List Value) (nt : Nat) (on : Obj) (kvs : List (Str × Value)) (op oi : Obj) (kp ki : List (Int × Value)) : Has m [(Str.ofString "self", .ref x'), (Str.ofString "symbols", .ref x), (Str.ofString "priority", .int p tp), (Str.ofString "type_text", .str t tt)] → StrsAre vs T → on.IsDictOf (PySem.strKind P0 w) kvs → FlatPairs PyData.str kvs (kdpD (tabOf T)) → TOk T → T.length ≤ n →
      op.IsDictOf (PySem.intKind P0 w) kp → oi.IsDictOf (PySem.intKind P0 w) ki → valueAt kp 26 = none → kp.length ≤ n → ki.length ≤ n → n + us.length + 10 * k ≤ 170 → StrsAre us ns → (∀ s ∈ ns, s ≠ Str.ofString "$VAR") → nx = (x', instObj 287 d') :: (d', opsDict H2 x bp bi bq) :: (bp, op) :: (bi, oi) :: (x, instObj 122 dx) :: (dx, symDict H bt bn bf bg) :: (bt, listOf vs.toArray nt) :: (bn, on) :: rr → OpsJ2 w x dx bt bn bf bg x' d' bp bi bq k H H2 p tp tt t rr us m nx
set_option maxHeartbeats 8000000 in
theorem ops_spec {w : World} {mean : ExcName → Option Value} {mg mb : Str → Option Value} {x dx bt bn bf bg : Nat} {H : SymH} {nt : Nat} {vs : List Value} {T : List Str} {on : Obj} {kvs : List (Str × Value)} {rest : Led}
    (hs : StrsAre vs T) (hdn : on.IsDictOf (PySem.strKind P0 w) kvs) (hfp : FlatPairs PyData.str kvs (kdpD (tabOf T))) (hlo : (bn == sysModules) = false) (hT : TOk T) (hlen : T.length ≤ 40)
    (o1 : Off bt rest) (o2 : Off bn rest) (n1 : x ≠ bt) (n2 : dx ≠ bt) (n3 : bn ≠ bt) (n4 : x ≠ bn) (n5 : dx ≠ bn) :
    Does 12 w mean mg mb 287 [.ref x] ((x, instObj 122 dx) :: (dx, symDict H bt bn bf bg) :: (bt, listOf vs.toArray nt) :: (bn, on) :: rest)
      (OpsRet w x dx bt bn bf bg H rest) := by
  unfold Does
  intro dp un gd cn cs fa ccd cl outer A₀ base h₀ L m s Q E B F X N Tp hk hd hu hret
  k_dflt (refine' call_cls ?k1 ?k2 ?k3 ?k4 ?k5 ?k6 ?_; (case k1 => k_asm); (case k2 => k_asm); (case k3 => k_asm); (case k4 => k_is); (case k5 => k_is); (case k6 => k_is); k_whole; intro x' d' h' F' N' l1 l2; (try k_lt l1); (try k_lt2 l2); (try k_sweep); fold_lay)
  (k_steps; (repeat' (unfold Stop; first | (k_dflt (refine' does_use ?Bx1 ?Fx1 ?Xx1 ?Nx1 ?Tx1 ?hkx1 (add_spec ?a1x1 ?a2x1 ?a3x1 ?a4x1 ?a5x1 ?a6x1 ?a7x1 ?a8x1 ?a9x1 ?a10x1 ?a11x1 ?a12x1 ?a13x1 ?a14x1 ?a15x1 ?a16x1) ?pkx1 ?hdx1 ?hux1 ?_; (case Bx1 => k_asm); (case Fx1 => k_asm); (case Xx1 => k_asm); (case Nx1 => k_asm); (case Tx1 => k_asm); (case hkx1 => first | exact rfl | assumption); (case pkx1 => (refine' Pk.cons ?q1x1 (Pk.cons ?q2x1 (Pk.cons ?q3x1 (Pk.cons ?q4x1 Pk.nil))); (case q1x1 => kbt_split); (case q2x1 => kbt_split); (case q3x1 => kbt_split); (case q4x1 => kbt_split))); (case a1x1 => k_asm); (case a2x1 => k_asm); (case a3x1 => first | assumption | rfl); (case a4x1 => first | assumption | exact Nat.le_refl 0); (case a5x1 => first | assumption | exact Nat.le_refl 0); (case a6x1 => omega); (case a7x1 => first | assumption | decide); (case a8x1 => first | assumption | decide); (case a9x1 => first | assumption | decide); (case a10x1 => k_all); (case a11x1 => k_all); (case a12x1 => k_ne); (case a13x1 => k_ne); (case a14x1 => k_ne); (case a15x1 => k_ne); (case a16x1 => k_ne); (case hdx1 => ktr_room); (case hux1 => ktr_units)); intro _ _ _ _ _ _ _ _ _ _ _ _ _; (try dsimp only); (try k_steps)) | (k_dflt (refine' does_use ?Bx2 ?Fx2 ?Xx2 ?Nx2 ?Tx2 ?hkx2 (add_spec (H := ⟨_, _, _, _, _, _, _, _, _⟩) ?a1x2 ?a2x2 ?a3x2 ?a4x2 ?a5x2 ?a6x2 ?a7x2 ?a8x2 ?a9x2 ?a10x2 ?a11x2 ?a12x2 ?a13x2 ?a14x2 ?a15x2 ?a16x2) ?pkx2 ?hdx2 ?hux2 ?_; (case Bx2 => k_asm); (case Fx2 => k_asm); (case Xx2 => k_asm); (case Nx2 => k_asm); (case Tx2 => k_asm); (case hkx2 => first | exact rfl | assumption); (case pkx2 => (refine' Pk.cons ?q1x2 (Pk.cons ?q2x2 (Pk.cons ?q3x2 (Pk.cons ?q4x2 Pk.nil))); (case q1x2 => kbt_split); (case q2x2 => kbt_split); (case q3x2 => kbt_split); (case q4x2 => kbt_split))); (case a1x2 => k_asm); (case a2x2 => k_asm); (case a3x2 => first | assumption | rfl); (case a4x2 => first | assumption | exact Nat.le_refl 0); (case a5x2 => first | assumption | exact Nat.le_refl 0); (case a6x2 => omega); (case a7x2 => first | assumption | decide); (case a8x2 => first | assumption | decide); (case a9x2 => first | assumption | decide); (case a10x2 => k_all); (case a11x2 => k_all); (case a12x2 => k_ne); (case a13x2 => k_ne); (case a14x2 => k_ne); (case a15x2 => k_ne); (case a16x2 => k_ne); (case hdx2 => ktr_room); (case hux2 => ktr_units)); intro _ _ _ _ _ _ _ _ _ _ _ _ _; (try dsimp only); (try k_steps)) | (k_dflt (refine' does_use ?Bx3 ?Fx3 ?Xx3 ?Nx3 ?Tx3 ?hkx3 (atomG ?a1x3 ?a2x3 ?a3x3 ?a4x3 ?a5x3 ?a6x3 ?a7x3 ?a8x3 ?a9x3 ?a10x3 ?a11x3 ?a12x3 ?a13x3 ?a14x3 ?a15x3) ?pkx3 ?hdx3 ?hux3 ?_; (case Bx3 => k_asm); (case Fx3 => k_asm); (case Xx3 => k_asm); (case Nx3 => k_asm); (case Tx3 => k_asm); (case hkx3 => first | exact rfl | assumption); (case pkx3 => (refine' Pk.cons ?q1x3 (Pk.cons ?q2x3 (Pk.cons ?q3x3 (Pk.cons ?q4x3 Pk.nil))); (case q1x3 => kbt_split); (case q2x3 => kbt_split); (case q3x3 => kbt_split); (case q4x3 => kbt_split))); (case a1x3 => assumption); (case a2x3 => k_asm); (case a3x3 => assumption); (case a4x3 => k_asm); (case a5x3 => assumption); (case a6x3 => assumption); (case a7x3 => omega); (case a8x3 => assumption); (case a9x3 => k_all); (case a10x3 => k_all); (case a11x3 => k_ne); (case a12x3 => k_ne); (case a13x3 => k_ne); (case a14x3 => k_ne); (case a15x3 => k_ne); (case hdx3 => ktr_room); (case hux3 => ktr_units)); intro _ _ _ _ _ _ _ _ _ _ _ _ _ _ _ _ _ _ _ _; (try dsimp only); (try k_steps)) | (k_dflt (refine' does_use ?Bx4 ?Fx4 ?Xx4 ?Nx4 ?Tx4 ?hkx4 rows13_spec ?pkx4 ?hdx4 ?hux4 ?_; (case Bx4 => k_asm); (case Fx4 => k_asm); (case Xx4 => k_asm); (case Nx4 => k_asm); (case Tx4 => k_asm); (case hkx4 => first | exact rfl | assumption); (case pkx4 => exact Pk.nil); (case hdx4 => ktr_room); (case hux4 => ktr_units)); intro _ _ _ _ _ _ _ _ _ _ _; (try dsimp only); (try k_steps)))))
  rename_i bp _ _ lop _ _ _ _ q1 _ bi _ _ loi _ _ _ _ q2 _ bq _ oq loq _ _ hiq _ q3 _ _ _ op9 oi9 kp9 ki9 hdp9 hdi9 hnp9 hlp9 hli9 _ _ _ _ a9 vs9 rl9 hR9 hlen9 hA9 l9 _ _ I2 l7
  have lx := AllLt.up l1 l2
  have e1 : @Ne Nat x' bp := by k_ne
  have e2 : @Ne Nat d' bp := by k_ne
  have e3 : @Ne Nat x bp := by k_ne
  have e4 : @Ne Nat dx bp := by k_ne
  have e5 : @Ne Nat x' bi := by k_ne
  have e6 : @Ne Nat d' bi := by k_ne
  have e7 : @Ne Nat x bi := by k_ne
  have e8 : @Ne Nat dx bi := by k_ne
  have e9 : @Ne Nat x' bt := by k_ne
  have e10 : @Ne Nat d' bt := by k_ne
  have e11 : @Ne Nat x' bn := by k_ne
  have e12 : @Ne Nat d' bn := by k_ne
  have e13 : @Ne Nat bi bp := by k_ne
  have e14 : @Ne Nat bt bp := by k_ne
  have e15 : @Ne Nat bn bp := by k_ne
  have e16 : @Ne Nat bt bi := by k_ne
  have e17 : @Ne Nat bn bi := by k_ne
  obtain ⟨rr, hrr⟩ : ∃ rr : Led, rr = (bq, oq) :: (a9, tupO vs9) :: (rl9 ++ rest) := ⟨_, rfl⟩
  have o3 : Off bt rr := by subst hrr; exact off1 (by k_ne) (off1 (ne_app l9 (o := _) (by k_mem)) (offApp (hA9.off (o := _) (by k_mem)) o1))
  have o4 : Off bn rr := by subst hrr; exact off1 (by k_ne) (off1 (ne_app l9 (o := _) (by k_mem)) (offApp (hA9.off (o := _) (by k_mem)) o2))
  have o5 : Off bp rr := by subst hrr; exact off1 (by k_ne) (off1 (ne_app l9 (o := _) (by k_mem)) (offApp (hA9.off (o := _) (by k_mem)) (allLt_ne (by krn_off))))
  have o6 : Off bi rr := by subst hrr; exact off1 (by k_ne) (off1 (ne_app l9 (o := _) (by k_mem)) (offApp (hA9.off (o := _) (by k_mem)) (allLt_ne (by krn_off))))
  have o7 : Off I2 rr := by subst hrr; exact off1 (gt_ne l7 (.tail _ (List.mem_append_right _ (by k_mem)))).symm (allLt_ne (AllLt.sub l7 (subT (subA (by ksw_less)))))
  have f1 : @Ne Nat x' I2 := (gt_ne l7 (.tail _ (List.mem_append_right _ (by k_mem)))).symm
  have f2 : @Ne Nat d' I2 := (gt_ne l7 (.tail _ (List.mem_append_right _ (by k_mem)))).symm
  have f3 : @Ne Nat bp I2 := (gt_ne l7 (.tail _ (List.mem_append_right _ (by k_mem)))).symm
  have f4 : @Ne Nat bi I2 := (gt_ne l7 (.tail _ (List.mem_append_right _ (by k_mem)))).symm
  have f5 : @Ne Nat x I2 := (gt_ne l7 (.tail _ (List.mem_append_right _ (by k_mem)))).symm
  have f6 : @Ne Nat dx I2 := (gt_ne l7 (.tail _ (List.mem_append_right _ (by k_mem)))).symm
  have f7 : @Ne Nat bt I2 := (gt_ne l7 (.tail _ (List.mem_append_right _ (by k_mem)))).symm
  have f8 : @Ne Nat bn I2 := (gt_ne l7 (.tail _ (List.mem_append_right _ (by k_mem)))).symm
  have hm2 : (a9, tupO vs9) ∈ rr := by subst hrr; exact .tail _ (.head _)
  have hbq : (bq, oq) ∈ rr := by subst hrr; exact .head _
  have hrest : ∀ p ∈ rest, p ∈ rr := by subst hrr; exact sub2 (sub2 (subR sub3))
  have hRr : RowsGood rr vs9 := by subst hrr; exact hR9.mono fun p hp => .tail _ (.tail _ (List.mem_append_left _ hp))
  refine rest_any (fun H2 => (x', instObj 287 d') :: (d', opsDict H2 x bp bi bq) :: (bp, op9) :: (bi, oi9) :: (x, instObj 122 dx) :: (dx, symDict H bt bn bf bg) :: (bt, listOf vs.toArray nt) :: (bn, on) :: rr) ⟨_, _, _, _, _, _, _, _, _⟩ (by rw [hrr]; (iterate 9 (refine sub1 ?_ ?_; (focus (refine .tail _ (List.mem_append_right _ ?_); k_mem)))); exact subT (subA (by ksw_less))) fun H2 => ?_
  refine rest_go (OpsJ1 w x dx bt bn bf bg x' d' bp bi bq I2 H H2 rr) _ sub3 (.mk 40 T vs nt on kvs op9 oi9 kp9 ki9 ⟨rfl, rfl, trivial⟩ hs hdn hfp hT hlen hdp9 hdi9 hnp9 (by omega) (by omega) (by omega) hRr rfl) ?off ?turn ?done
  case off => k_all
  all_goals clear hrr hs hdn hfp hT hlen hdp9 hdi9 hnp9 hlp9 hli9 hR9 hA9 l9 l7 q1 q2 q3 lx l1 hRr
  case turn =>
    intro v r m nx h tk it hJ hoffI hcls F N
    obtain ⟨n, T, vs, nt, on, kvs, op, oi, kp, ki, hm, hs, hdn, hfp, hT, hlen, hdp, hdi, hnp, hlp, hli, hbud, hRw, hnx⟩ := hJ
    rw [mlocs_form hm] at F
    subst hnx
    cases hRw with
    | @cons ra nm p t ns tp tt _ us hm3 hm4 hus hgood hRw =>
      obtain ⟨gp0, gt, gns, glen⟩ := hgood
      have hlen' : us.length ≤ 10 := by rw [hus.length]; exact glen
      rw [List.length_cons] at hbud
      (k_steps; (repeat' (unfold Stop; first | (k_dflt (refine' does_use ?Bx5 ?Fx5 ?Xx5 ?Nx5 ?Tx5 ?hkx5 (add_spec ?a1x5 ?a2x5 ?a3x5 ?a4x5 ?a5x5 ?a6x5 ?a7x5 ?a8x5 ?a9x5 ?a10x5 ?a11x5 ?a12x5 ?a13x5 ?a14x5 ?a15x5 ?a16x5) ?pkx5 ?hdx5 ?hux5 ?_; (case Bx5 => k_asm); (case Fx5 => k_asm); (case Xx5 => k_asm); (case Nx5 => k_asm); (case Tx5 => k_asm); (case hkx5 => first | exact rfl | assumption); (case pkx5 => (refine' Pk.cons ?q1x5 (Pk.cons ?q2x5 (Pk.cons ?q3x5 (Pk.cons ?q4x5 Pk.nil))); (case q1x5 => kbt_split); (case q2x5 => kbt_split); (case q3x5 => kbt_split); (case q4x5 => kbt_split))); (case a1x5 => k_asm); (case a2x5 => k_asm); (case a3x5 => first | assumption | rfl); (case a4x5 => first | assumption | exact Nat.le_refl 0); (case a5x5 => first | assumption | exact Nat.le_refl 0); (case a6x5 => omega); (case a7x5 => first | assumption | decide); (case a8x5 => first | assumption | decide); (case a9x5 => first | assumption | decide); (case a10x5 => k_all); (case a11x5 => k_all); (case a12x5 => k_ne); (case a13x5 => k_ne); (case a14x5 => k_ne); (case a15x5 => k_ne); (case a16x5 => k_ne); (case hdx5 => ktr_room); (case hux5 => ktr_units)); intro _ _ _ _ _ _ _ _ _ _ _ _ _; (try dsimp only); (try k_steps)) | (k_dflt (refine' does_use ?Bx6 ?Fx6 ?Xx6 ?Nx6 ?Tx6 ?hkx6 (add_spec (H := ⟨_, _, _, _, _, _, _, _, _⟩) ?a1x6 ?a2x6 ?a3x6 ?a4x6 ?a5x6 ?a6x6 ?a7x6 ?a8x6 ?a9x6 ?a10x6 ?a11x6 ?a12x6 ?a13x6 ?a14x6 ?a15x6 ?a16x6) ?pkx6 ?hdx6 ?hux6 ?_; (case Bx6 => k_asm); (case Fx6 => k_asm); (case Xx6 => k_asm); (case Nx6 => k_asm); (case Tx6 => k_asm); (case hkx6 => first | exact rfl | assumption); (case pkx6 => (refine' Pk.cons ?q1x6 (Pk.cons ?q2x6 (Pk.cons ?q3x6 (Pk.cons ?q4x6 Pk.nil))); (case q1x6 => kbt_split); (case q2x6 => kbt_split); (case q3x6 => kbt_split); (case q4x6 => kbt_split))); (case a1x6 => k_asm); (case a2x6 => k_asm); (case a3x6 => first | assumption | rfl); (case a4x6 => first | assumption | exact Nat.le_refl 0); (case a5x6 => first | assumption | exact Nat.le_refl 0); (case a6x6 => omega); (case a7x6 => first | assumption | decide); (case a8x6 => first | assumption | decide); (case a9x6 => first | assumption | decide); (case a10x6 => k_all); (case a11x6 => k_all); (case a12x6 => k_ne); (case a13x6 => k_ne); (case a14x6 => k_ne); (case a15x6 => k_ne); (case a16x6 => k_ne); (case hdx6 => ktr_room); (case hux6 => ktr_units)); intro _ _ _ _ _ _ _ _ _ _ _ _ _; (try dsimp only); (try k_steps)) | (k_dflt (refine' does_use ?Bx7 ?Fx7 ?Xx7 ?Nx7 ?Tx7 ?hkx7 (atomG ?a1x7 ?a2x7 ?a3x7 ?a4x7 ?a5x7 ?a6x7 ?a7x7 ?a8x7 ?a9x7 ?a10x7 ?a11x7 ?a12x7 ?a13x7 ?a14x7 ?a15x7) ?pkx7 ?hdx7 ?hux7 ?_; (case Bx7 => k_asm); (case Fx7 => k_asm); (case Xx7 => k_asm); (case Nx7 => k_asm); (case Tx7 => k_asm); (case hkx7 => first | exact rfl | assumption); (case pkx7 => (refine' Pk.cons ?q1x7 (Pk.cons ?q2x7 (Pk.cons ?q3x7 (Pk.cons ?q4x7 Pk.nil))); (case q1x7 => kbt_split); (case q2x7 => kbt_split); (case q3x7 => kbt_split); (case q4x7 => kbt_split))); (case a1x7 => assumption); (case a2x7 => k_asm); (case a3x7 => assumption); (case a4x7 => k_asm); (case a5x7 => assumption); (case a6x7 => assumption); (case a7x7 => omega); (case a8x7 => assumption); (case a9x7 => k_all); (case a10x7 => k_all); (case a11x7 => k_ne); (case a12x7 => k_ne); (case a13x7 => k_ne); (case a14x7 => k_ne); (case a15x7 => k_ne); (case hdx7 => ktr_room); (case hux7 => ktr_units)); intro _ _ _ _ _ _ _ _ _ _ _ _ _ _ _ _ _ _ _ _; (try dsimp only); (try k_steps)) | (k_dflt (refine' does_use ?Bx8 ?Fx8 ?Xx8 ?Nx8 ?Tx8 ?hkx8 rows13_spec ?pkx8 ?hdx8 ?hux8 ?_; (case Bx8 => k_asm); (case Fx8 => k_asm); (case Xx8 => k_asm); (case Nx8 => k_asm); (case Tx8 => k_asm); (case hkx8 => first | exact rfl | assumption); (case pkx8 => exact Pk.nil); (case hdx8 => ktr_room); (case hux8 => ktr_units)); intro _ _ _ _ _ _ _ _ _ _ _; (try dsimp only); (try k_steps)))))
      rename_i I3 l3
      have g1 : @Ne Nat I2 bt := f7.symm
      have g2 : @Ne Nat I2 bn := f8.symm
      have g3 : @Ne Nat I2 bp := f3.symm
      have g4 : @Ne Nat I2 bi := f4.symm
      have c1 : @Ne Nat I2 I3 := by k_ne
      have c2 : @Ne Nat x' I3 := by k_ne
      have c3 : @Ne Nat d' I3 := by k_ne
      have c4 : @Ne Nat bp I3 := by k_ne
      have c5 : @Ne Nat bi I3 := by k_ne
      have c6 : @Ne Nat x I3 := by k_ne
      have c7 : @Ne Nat dx I3 := by k_ne
      have c8 : @Ne Nat bt I3 := by k_ne
      have c9 : @Ne Nat bn I3 := by k_ne
      have c10 : Off I3 rr := allLt_ne (by krn_off)
      obtain ⟨rr3, hrr3⟩ : ∃ rr3 : Led, rr3 = (I2, it) :: rr := ⟨_, rfl⟩
      have p3 : Off bt rr3 := by subst hrr3; exact off1 g1 o3
      have p4 : Off bn rr3 := by subst hrr3; exact off1 g2 o4
      have p5 : Off bp rr3 := by subst hrr3; exact off1 g3 o5
      have p6 : Off bi rr3 := by subst hrr3; exact off1 g4 o6
      have p7 : Off I3 rr3 := by subst hrr3; exact off1 c1 c10
      have hits : (nm, tupO us) ∈ rr3 := by subst hrr3; exact .tail _ hm4
      refine rest_go (OpsJ2 w x dx bt bn bf bg x' d' bp bi bq r.length H H2 p tp tt t rr3) ((x', instObj 287 d') :: (d', opsDict H2 x bp bi bq) :: (bp, op) :: (bi, oi) :: (x, instObj 122 dx) :: (dx, symDict H bt bn bf bg) :: (bt, listOf vs.toArray nt) :: (bn, on) :: rr3) (by rw [hrr3]; ksw_less) (.mk n ns T vs nt on kvs op oi kp ki ⟨rfl, rfl, rfl, rfl, trivial⟩ hs hdn hfp hT hlen hdp hdi hnp hlp hli (by omega) hus gns rfl) ?off2 ?turn2 ?done2
      case off2 => k_all
      case turn2 =>
        clear hs hdn hfp hT hlen hdp hdi hnp hlp hli hbud hus gns hm
        intro v r2 m nx h tk it2 hJ hoffI hcls F N
        obtain ⟨n, ns, T, vs, nt, on, kvs, op, oi, kp, ki, hm, hs, hdn, hfp, hT, hlen, hdp, hdi, hnp, hlp, hli, hbud, hus, gns, hnx⟩ := hJ
        cases hus with
        | cons s1 ts hus =>
          have gn1 : s1 ≠ Str.ofString "$VAR" := gns _ (.head _)
          rw [mlocs_form hm] at F
          subst hnx
          rw [List.length_cons] at hbud
          (k_steps; (repeat' (unfold Stop; first | (k_dflt (refine' does_use ?Bx9 ?Fx9 ?Xx9 ?Nx9 ?Tx9 ?hkx9 (add_spec ?a1x9 ?a2x9 ?a3x9 ?a4x9 ?a5x9 ?a6x9 ?a7x9 ?a8x9 ?a9x9 ?a10x9 ?a11x9 ?a12x9 ?a13x9 ?a14x9 ?a15x9 ?a16x9) ?pkx9 ?hdx9 ?hux9 ?_; (case Bx9 => k_asm); (case Fx9 => k_asm); (case Xx9 => k_asm); (case Nx9 => k_asm); (case Tx9 => k_asm); (case hkx9 => first | exact rfl | assumption); (case pkx9 => (refine' Pk.cons ?q1x9 (Pk.cons ?q2x9 (Pk.cons ?q3x9 (Pk.cons ?q4x9 Pk.nil))); (case q1x9 => kbt_split); (case q2x9 => kbt_split); (case q3x9 => kbt_split); (case q4x9 => kbt_split))); (case a1x9 => k_asm); (case a2x9 => k_asm); (case a3x9 => first | assumption | rfl); (case a4x9 => first | assumption | exact Nat.le_refl 0); (case a5x9 => first | assumption | exact Nat.le_refl 0); (case a6x9 => omega); (case a7x9 => first | assumption | decide); (case a8x9 => first | assumption | decide); (case a9x9 => first | assumption | decide); (case a10x9 => k_all); (case a11x9 => k_all); (case a12x9 => k_ne); (case a13x9 => k_ne); (case a14x9 => k_ne); (case a15x9 => k_ne); (case a16x9 => k_ne); (case hdx9 => ktr_room); (case hux9 => ktr_units)); intro _ _ _ _ _ _ _ _ _ _ _ _ _; (try dsimp only); (try k_steps)) | (k_dflt (refine' does_use ?Bx10 ?Fx10 ?Xx10 ?Nx10 ?Tx10 ?hkx10 (add_spec (H := ⟨_, _, _, _, _, _, _, _, _⟩) ?a1x10 ?a2x10 ?a3x10 ?a4x10 ?a5x10 ?a6x10 ?a7x10 ?a8x10 ?a9x10 ?a10x10 ?a11x10 ?a12x10 ?a13x10 ?a14x10 ?a15x10 ?a16x10) ?pkx10 ?hdx10 ?hux10 ?_; (case Bx10 => k_asm); (case Fx10 => k_asm); (case Xx10 => k_asm); (case Nx10 => k_asm); (case Tx10 => k_asm); (case hkx10 => first | exact rfl | assumption); (case pkx10 => (refine' Pk.cons ?q1x10 (Pk.cons ?q2x10 (Pk.cons ?q3x10 (Pk.cons ?q4x10 Pk.nil))); (case q1x10 => kbt_split); (case q2x10 => kbt_split); (case q3x10 => kbt_split); (case q4x10 => kbt_split))); (case a1x10 => k_asm); (case a2x10 => k_asm); (case a3x10 => first | assumption | rfl); (case a4x10 => first | assumption | exact Nat.le_refl 0); (case a5x10 => first | assumption | exact Nat.le_refl 0); (case a6x10 => omega); (case a7x10 => first | assumption | decide); (case a8x10 => first | assumption | decide); (case a9x10 => first | assumption | decide); (case a10x10 => k_all); (case a11x10 => k_all); (case a12x10 => k_ne); (case a13x10 => k_ne); (case a14x10 => k_ne); (case a15x10 => k_ne); (case a16x10 => k_ne); (case hdx10 => ktr_room); (case hux10 => ktr_units)); intro _ _ _ _ _ _ _ _ _ _ _ _ _; (try dsimp only); (try k_steps)) | (k_dflt (refine' does_use ?Bx11 ?Fx11 ?Xx11 ?Nx11 ?Tx11 ?hkx11 (atomG ?a1x11 ?a2x11 ?a3x11 ?a4x11 ?a5x11 ?a6x11 ?a7x11 ?a8x11 ?a9x11 ?a10x11 ?a11x11 ?a12x11 ?a13x11 ?a14x11 ?a15x11) ?pkx11 ?hdx11 ?hux11 ?_; (case Bx11 => k_asm); (case Fx11 => k_asm); (case Xx11 => k_asm); (case Nx11 => k_asm); (case Tx11 => k_asm); (case hkx11 => first | exact rfl | assumption); (case pkx11 => (refine' Pk.cons ?q1x11 (Pk.cons ?q2x11 (Pk.cons ?q3x11 (Pk.cons ?q4x11 Pk.nil))); (case q1x11 => kbt_split); (case q2x11 => kbt_split); (case q3x11 => kbt_split); (case q4x11 => kbt_split))); (case a1x11 => assumption); (case a2x11 => k_asm); (case a3x11 => assumption); (case a4x11 => k_asm); (case a5x11 => assumption); (case a6x11 => assumption); (case a7x11 => omega); (case a8x11 => assumption); (case a9x11 => k_all); (case a10x11 => k_all); (case a11x11 => k_ne); (case a12x11 => k_ne); (case a13x11 => k_ne); (case a14x11 => k_ne); (case a15x11 => k_ne); (case hdx11 => ktr_room); (case hux11 => ktr_units)); intro _ _ _ _ _ _ _ _ _ _ _ _ _ _ _ _ _ _ _ _; (try dsimp only); (try k_steps)) | (k_dflt (refine' does_use ?Bx12 ?Fx12 ?Xx12 ?Nx12 ?Tx12 ?hkx12 rows13_spec ?pkx12 ?hdx12 ?hux12 ?_; (case Bx12 => k_asm); (case Fx12 => k_asm); (case Xx12 => k_asm); (case Nx12 => k_asm); (case Tx12 => k_asm); (case hkx12 => first | exact rfl | assumption); (case pkx12 => exact Pk.nil); (case hdx12 => ktr_room); (case hux12 => ktr_units)); intro _ _ _ _ _ _ _ _ _ _ _; (try dsimp only); (try k_steps)))))
          rename Fr _ _ _ _ => lF
          rename News _ _ _ _ => lN
          rename_i T9 vs9 nt9 on9 kv9 _ _ _ hT9 hl9 _ hs9 hd9 hf9 _ _ _ _ op9 oi9 kp9 ki9 hdp9 hdi9 hnp9 hlp9 hli9 _ zz
          refine turn_sub lF lN ?sub3 ?off3 (by (repeat (first | exact hits | apply List.Mem.tail))) (.mk (n + 1) _ T9 vs9 nt9 on9 kv9 op9 oi9 kp9 ki9 ⟨rfl, rfl, rfl, rfl, trivial⟩ hs9 hd9 hf9 hT9 hl9 hdp9 hdi9 hnp9 hlp9 hli9 (by omega) hus (fun s hs => gns s (.tail _ hs)) rfl)
          case sub3 => ksw_less
          case off3 => k_all
      case done2 =>
        clear hs hdn hfp hT hlen hdp hdi hnp hlp hli hbud hus gns hm
        intro m nx h tk hJ F N
        obtain ⟨n, ns, T, vs, nt, on, kvs, op, oi, kp, ki, hm, hs, hdn, hfp, hT, hlen, hdp, hdi, hnp, hlp, hli, hbud, hus, gns, hnx⟩ := hJ
        rw [mlocs_form hm] at F
        subst hnx
        rw [List.length_nil] at hbud
        (k_steps; (repeat' (unfold Stop; first | (k_dflt (refine' does_use ?Bx13 ?Fx13 ?Xx13 ?Nx13 ?Tx13 ?hkx13 (add_spec ?a1x13 ?a2x13 ?a3x13 ?a4x13 ?a5x13 ?a6x13 ?a7x13 ?a8x13 ?a9x13 ?a10x13 ?a11x13 ?a12x13 ?a13x13 ?a14x13 ?a15x13 ?a16x13) ?pkx13 ?hdx13 ?hux13 ?_; (case Bx13 => k_asm); (case Fx13 => k_asm); (case Xx13 => k_asm); (case Nx13 => k_asm); (case Tx13 => k_asm); (case hkx13 => first | exact rfl | assumption); (case pkx13 => (refine' Pk.cons ?q1x13 (Pk.cons ?q2x13 (Pk.cons ?q3x13 (Pk.cons ?q4x13 Pk.nil))); (case q1x13 => kbt_split); (case q2x13 => kbt_split); (case q3x13 => kbt_split); (case q4x13 => kbt_split))); (case a1x13 => k_asm); (case a2x13 => k_asm); (case a3x13 => first | assumption | rfl); (case a4x13 => first | assumption | exact Nat.le_refl 0); (case a5x13 => first | assumption | exact Nat.le_refl 0); (case a6x13 => omega); (case a7x13 => first | assumption | decide); (case a8x13 => first | assumption | decide); (case a9x13 => first | assumption | decide); (case a10x13 => k_all); (case a11x13 => k_all); (case a12x13 => k_ne); (case a13x13 => k_ne); (case a14x13 => k_ne); (case a15x13 => k_ne); (case a16x13 => k_ne); (case hdx13 => ktr_room); (case hux13 => ktr_units)); intro _ _ _ _ _ _ _ _ _ _ _ _ _; (try dsimp only); (try k_steps)) | (k_dflt (refine' does_use ?Bx14 ?Fx14 ?Xx14 ?Nx14 ?Tx14 ?hkx14 (add_spec (H := ⟨_, _, _, _, _, _, _, _, _⟩) ?a1x14 ?a2x14 ?a3x14 ?a4x14 ?a5x14 ?a6x14 ?a7x14 ?a8x14 ?a9x14 ?a10x14 ?a11x14 ?a12x14 ?a13x14 ?a14x14 ?a15x14 ?a16x14) ?pkx14 ?hdx14 ?hux14 ?_; (case Bx14 => k_asm); (case Fx14 => k_asm); (case Xx14 => k_asm); (case Nx14 => k_asm); (case Tx14 => k_asm); (case hkx14 => first | exact rfl | assumption); (case pkx14 => (refine' Pk.cons ?q1x14 (Pk.cons ?q2x14 (Pk.cons ?q3x14 (Pk.cons ?q4x14 Pk.nil))); (case q1x14 => kbt_split); (case q2x14 => kbt_split); (case q3x14 => kbt_split); (case q4x14 => kbt_split))); (case a1x14 => k_asm); (case a2x14 => k_asm); (case a3x14 => first | assumption | rfl); (case a4x14 => first | assumption | exact Nat.le_refl 0); (case a5x14 => first | assumption | exact Nat.le_refl 0); (case a6x14 => omega); (case a7x14 => first | assumption | decide); (case a8x14 => first | assumption | decide); (case a9x14 => first | assumption | decide); (case a10x14 => k_all); (case a11x14 => k_all); (case a12x14 => k_ne); (case a13x14 => k_ne); (case a14x14 => k_ne); (case a15x14 => k_ne); (case a16x14 => k_ne); (case hdx14 => ktr_room); (case hux14 => ktr_units)); intro _ _ _ _ _ _ _ _ _ _ _ _ _; (try dsimp only); (try k_steps)) | (k_dflt (refine' does_use ?Bx15 ?Fx15 ?Xx15 ?Nx15 ?Tx15 ?hkx15 (atomG ?a1x15 ?a2x15 ?a3x15 ?a4x15 ?a5x15 ?a6x15 ?a7x15 ?a8x15 ?a9x15 ?a10x15 ?a11x15 ?a12x15 ?a13x15 ?a14x15 ?a15x15) ?pkx15 ?hdx15 ?hux15 ?_; (case Bx15 => k_asm); (case Fx15 => k_asm); (case Xx15 => k_asm); (case Nx15 => k_asm); (case Tx15 => k_asm); (case hkx15 => first | exact rfl | assumption); (case pkx15 => (refine' Pk.cons ?q1x15 (Pk.cons ?q2x15 (Pk.cons ?q3x15 (Pk.cons ?q4x15 Pk.nil))); (case q1x15 => kbt_split); (case q2x15 => kbt_split); (case q3x15 => kbt_split); (case q4x15 => kbt_split))); (case a1x15 => assumption); (case a2x15 => k_asm); (case a3x15 => assumption); (case a4x15 => k_asm); (case a5x15 => assumption); (case a6x15 => assumption); (case a7x15 => omega); (case a8x15 => assumption); (case a9x15 => k_all); (case a10x15 => k_all); (case a11x15 => k_ne); (case a12x15 => k_ne); (case a13x15 => k_ne); (case a14x15 => k_ne); (case a15x15 => k_ne); (case hdx15 => ktr_room); (case hux15 => ktr_units)); intro _ _ _ _ _ _ _ _ _ _ _ _ _ _ _ _ _ _ _ _; (try dsimp only); (try k_steps)) | (k_dflt (refine' does_use ?Bx16 ?Fx16 ?Xx16 ?Nx16 ?Tx16 ?hkx16 rows13_spec ?pkx16 ?hdx16 ?hux16 ?_; (case Bx16 => k_asm); (case Fx16 => k_asm); (case Xx16 => k_asm); (case Nx16 => k_asm); (case Tx16 => k_asm); (case hkx16 => first | exact rfl | assumption); (case pkx16 => exact Pk.nil); (case hdx16 => ktr_room); (case hux16 => ktr_units)); intro _ _ _ _ _ _ _ _ _ _ _; (try dsimp only); (try k_steps)))))
        refine turn_sub F N (by rw [hrr3]; first | ksw_less | fail) ?off3 ?mem3 (.mk n T vs nt on kvs op oi kp ki ⟨rfl, rfl, trivial⟩ hs hdn hfp hT hlen hdp hdi hnp hlp hli (by omega) hRw rfl)
        case off3 => k_all
        case mem3 => exact (by (repeat (first | exact hm2 | apply List.Mem.tail)))
  case done =>
    intro m nx h tk hJ F N
    obtain ⟨n, T, vs, nt, on, kvs, op, oi, kp, ki, hm, hs, hdn, hfp, hT, hlen, hdp, hdi, hnp, hlp, hli, hbud, hRw, hnx⟩ := hJ
    rw [mlocs_form hm] at F
    subst hnx
    rw [List.length_nil] at hbud
    (k_steps; (repeat' (unfold Stop; first | (k_dflt (refine' does_use ?Bx17 ?Fx17 ?Xx17 ?Nx17 ?Tx17 ?hkx17 (add_spec ?a1x17 ?a2x17 ?a3x17 ?a4x17 ?a5x17 ?a6x17 ?a7x17 ?a8x17 ?a9x17 ?a10x17 ?a11x17 ?a12x17 ?a13x17 ?a14x17 ?a15x17 ?a16x17) ?pkx17 ?hdx17 ?hux17 ?_; (case Bx17 => k_asm); (case Fx17 => k_asm); (case Xx17 => k_asm); (case Nx17 => k_asm); (case Tx17 => k_asm); (case hkx17 => first | exact rfl | assumption); (case pkx17 => (refine' Pk.cons ?q1x17 (Pk.cons ?q2x17 (Pk.cons ?q3x17 (Pk.cons ?q4x17 Pk.nil))); (case q1x17 => kbt_split); (case q2x17 => kbt_split); (case q3x17 => kbt_split); (case q4x17 => kbt_split))); (case a1x17 => k_asm); (case a2x17 => k_asm); (case a3x17 => first | assumption | rfl); (case a4x17 => first | assumption | exact Nat.le_refl 0); (case a5x17 => first | assumption | exact Nat.le_refl 0); (case a6x17 => omega); (case a7x17 => first | assumption | decide); (case a8x17 => first | assumption | decide); (case a9x17 => first | assumption | decide); (case a10x17 => k_all); (case a11x17 => k_all); (case a12x17 => k_ne); (case a13x17 => k_ne); (case a14x17 => k_ne); (case a15x17 => k_ne); (case a16x17 => k_ne); (case hdx17 => ktr_room); (case hux17 => ktr_units)); intro _ _ _ _ _ _ _ _ _ _ _ _ _; (try dsimp only); (try k_steps)) | (k_dflt (refine' does_use ?Bx18 ?Fx18 ?Xx18 ?Nx18 ?Tx18 ?hkx18 (add_spec (H := ⟨_, _, _, _, _, _, _, _, _⟩) ?a1x18 ?a2x18 ?a3x18 ?a4x18 ?a5x18 ?a6x18 ?a7x18 ?a8x18 ?a9x18 ?a10x18 ?a11x18 ?a12x18 ?a13x18 ?a14x18 ?a15x18 ?a16x18) ?pkx18 ?hdx18 ?hux18 ?_; (case Bx18 => k_asm); (case Fx18 => k_asm); (case Xx18 => k_asm); (case Nx18 => k_asm); (case Tx18 => k_asm); (case hkx18 => first | exact rfl | assumption); (case pkx18 => (refine' Pk.cons ?q1x18 (Pk.cons ?q2x18 (Pk.cons ?q3x18 (Pk.cons ?q4x18 Pk.nil))); (case q1x18 => kbt_split); (case q2x18 => kbt_split); (case q3x18 => kbt_split); (case q4x18 => kbt_split))); (case a1x18 => k_asm); (case a2x18 => k_asm); (case a3x18 => first | assumption | rfl); (case a4x18 => first | assumption | exact Nat.le_refl 0); (case a5x18 => first | assumption | exact Nat.le_refl 0); (case a6x18 => omega); (case a7x18 => first | assumption | decide); (case a8x18 => first | assumption | decide); (case a9x18 => first | assumption | decide); (case a10x18 => k_all); (case a11x18 => k_all); (case a12x18 => k_ne); (case a13x18 => k_ne); (case a14x18 => k_ne); (case a15x18 => k_ne); (case a16x18 => k_ne); (case hdx18 => ktr_room); (case hux18 => ktr_units)); intro _ _ _ _ _ _ _ _ _ _ _ _ _; (try dsimp only); (try k_steps)) | (k_dflt (refine' does_use ?Bx19 ?Fx19 ?Xx19 ?Nx19 ?Tx19 ?hkx19 (atomG ?a1x19 ?a2x19 ?a3x19 ?a4x19 ?a5x19 ?a6x19 ?a7x19 ?a8x19 ?a9x19 ?a10x19 ?a11x19 ?a12x19 ?a13x19 ?a14x19 ?a15x19) ?pkx19 ?hdx19 ?hux19 ?_; (case Bx19 => k_asm); (case Fx19 => k_asm); (case Xx19 => k_asm); (case Nx19 => k_asm); (case Tx19 => k_asm); (case hkx19 => first | exact rfl | assumption); (case pkx19 => (refine' Pk.cons ?q1x19 (Pk.cons ?q2x19 (Pk.cons ?q3x19 (Pk.cons ?q4x19 Pk.nil))); (case q1x19 => kbt_split); (case q2x19 => kbt_split); (case q3x19 => kbt_split); (case q4x19 => kbt_split))); (case a1x19 => assumption); (case a2x19 => k_asm); (case a3x19 => assumption); (case a4x19 => k_asm); (case a5x19 => assumption); (case a6x19 => assumption); (case a7x19 => omega); (case a8x19 => assumption); (case a9x19 => k_all); (case a10x19 => k_all); (case a11x19 => k_ne); (case a12x19 => k_ne); (case a13x19 => k_ne); (case a14x19 => k_ne); (case a15x19 => k_ne); (case hdx19 => ktr_room); (case hux19 => ktr_units)); intro _ _ _ _ _ _ _ _ _ _ _ _ _ _ _ _ _ _ _ _; (try dsimp only); (try k_steps)) | (k_dflt (refine' does_use ?Bx20 ?Fx20 ?Xx20 ?Nx20 ?Tx20 ?hkx20 rows13_spec ?pkx20 ?hdx20 ?hux20 ?_; (case Bx20 => k_asm); (case Fx20 => k_asm); (case Xx20 => k_asm); (case Nx20 => k_asm); (case Tx20 => k_asm); (case hkx20 => first | exact rfl | assumption); (case pkx20 => exact Pk.nil); (case hdx20 => ktr_room); (case hux20 => ktr_units)); intro _ _ _ _ _ _ _ _ _ _ _; (try dsimp only); (try k_steps)))))
    rename Fr _ _ _ _ => lF
    rename News _ _ _ _ => lN
    refine hret x' d' bp bi bq H2 op oq kp T vs nt on kvs ((x', instObj 287 d') :: (d', opsDict H2 x bp bi bq) :: (bp, op) :: rr) hs hdn hfp hT (by omega) hdp hnp hiq lop loq (.head _) (.tail _ (.head _)) (.tail _ (.tail _ (.head _))) (.tail _ (.tail _ (.tail _ hbq))) (fun p hp => .tail _ (.tail _ (.tail _ (hrest p hp)))) ?z1 ?z2 _ _ lF (cb_drop lN (by first | ksw_less | fail))
    case z1 => k_all
    case z2 => k_all
end
example : True ∧ True := by
  try walk1
  repeat (first | trivial | constructor)
section
-- part D0
theorem lri_no_len : typeLookup (.type "list_reverseiterator") "__len__" = pure none := by rw [typeLookup_type, builtinLookup_eq_fast]; kernel_rfl
theorem lri_hint : typeLookup (.type "list_reverseiterator") "__length_hint__" = pure (some (.builtin "list_reverseiterator.__length_hint__")) := by rw [typeLookup_type, builtinLookup_eq_fast]; kernel_rfl
section
variable {prog : Program} {w : World} {A : Around} {E : Value → Shared → Prop} {s : Shared} {I l : Addr} {vs : List Value}
/-- all that a reversed list's iterator has left to give, gathered -/
theorem collect_lri {Q : List Value → Shared → Prop} (hh : A.in1.handled = none) (hne : l ≠ I) (hit : s.heap.IsRevIter I l ((vs.length : Int) - 1)) (hl : s.heap.IsList l vs.toArray)
    (hQ : ∀ s', Moved [I] (fun a b => b = a) s s' → Q vs.reverse s') (hn : vs.length ≤ sizeLine) : wpAny (model prog w) A (collect (.ref I)) Q E s := by
  have hI : I < s.heap.objs.size := by obtain ⟨o, ho, _⟩ := hit; exact Heap.lt_size ho
  have hll : l < s.heap.objs.size := by obtain ⟨o, ho, _⟩ := hl; exact Heap.lt_size ho
  have hSI : s.heap.objs.size ≠ I := Nat.ne_of_gt hI
  have hSf : s.heap.objs.size ∉ [I, l] := by
    intro hm
    rcases List.mem_cons.mp hm with e | hm
    · exact hSI e
    · exact Nat.ne_of_gt hll (List.mem_singleton.mp hm)
  have W := (Walks.listRev (prog := prog) (w := w) (A := A.in1) hh I l hne vs.toArray).toS
  have hsz : vs.toArray.size = vs.length := List.size_toArray
  have hT : ∀ (u : Shared) (i : Nat), u.heap.IsRevIter I l ((vs.toArray.size : Int) - 1 - (i : Int)) → u.TypeIs (.ref I) "list_reverseiterator" := fun u i x => x.typeIs
  have hst : 0 ≤ vs.toArray.size ∧ s.heap.IsRevIter I l ((vs.toArray.size : Int) - 1 - ((0 : Nat) : Int)) ∧ s.heap.IsList l vs.toArray := ⟨Nat.zero_le _, by rw [hsz]; simpa using hit, hl⟩
  unfold collect
  refine wpAny_bind (wpAny_runValue (codeAny_builtin F.entry_proto_collect ?_))
  rw [Around.under_plainId F.plain_proto_collect _]
  show wpAny _ A.in1 (newList [] >>= fun z => again (.builtin "list.__iadd__" ⟨[z, .ref I], []⟩)) _ _ s
  refine wpAny_bind (wpAny_newObj_type ?_)
  refine wpAny_pure ⟨plainId_quiet F.plain_list_iadd _, codeAny_builtin F.entry_list_iadd ?_⟩
  rw [Around.under_plainId F.plain_list_iadd _]
  have hst₁ := W.frame 0 s (s.heap.push { cls := .type "list", data := .seq ([] : List Value).toArray }) s.toks hst (Nat.le_refl _) fun b _ o e => Heap.get?_push_of_some _ e
  have hS₁ : (s.heap.push { cls := .type "list", data := .seq ([] : List Value).toArray }).get? s.heap.objs.size = some { cls := .type "list", data := .seq ([] : List Value).toArray } := Heap.get?_push_size _ rfl
  have h1 : Builtin.List.listSameRef (.ref s.heap.objs.size) (.ref I) = false := by simp [Builtin.List.listSameRef, hSI]
  show wpAny _ A.in1 (Builtin.List.listExtendWith (.ref s.heap.objs.size) (.ref I) (.ref s.heap.objs.size)) _ _ _
  unfold Builtin.List.listExtendWith
  refine wpAny_bind (wpAny_typeOf (hT _ 0 hst₁.2.1) ?_)
  rw [if_neg (by rw [h1]; decide)]
  refine wpAny_bind (W.self 0 _ _ _ hst₁ ?_)
  refine wpAny_bind (wpAny_holding ?_)
  unfold Builtin.List.listLengthHint
  refine wpAny_bind (wpAny_specialOf (hT _ 0 hst₁.2.1) lri_no_len ?_)
  show wpAny _ A.in1 (specialOf (Value.ref I) (Str.ofString "__length_hint__") >>= _) _ _ _
  refine wpAny_bind (wpAny_specialOf (hT _ 0 hst₁.2.1) lri_hint ?_)
  generalize hid : ("list_reverseiterator.__length_hint__" : String) = id0
  (fail_if_success (clear hid id0))
  wp_delta
  rw [show splitId id0 = some ("list_reverseiterator", "__length_hint__") from by subst hid; decide +kernel]
  subst hid
  refine wpAny_bind (wpAny_isInstance (b := true) (hT _ 0 hst₁.2.1) (by rw [isSubtype_type]; kernel_rfl) ?_)
  refine wpAny_pure ?_
  rw [if_neg (by decide)]
  refine wpAny_pure ⟨plainId_quiet F.plain_extend_loop _, codeAny_extend_loopS W (by rw [hsz]; exact hn) _ hSf _ vs.toArray.size 0 _ _ _ rfl (Nat.zero_le _) hst₁ hS₁ (ItemsOf.nil _) fun s' acc' c' hm hS' hacc => ?_⟩
  show wpAny _ A (load s.heap.objs.size >>= _) _ _ s'
  refine wpAny_bind (wpAny_load hS' ?_)
  have hacc2 : acc'.toList = vs.reverse := by
    apply List.ext_getElem?
    intro j
    have hsa : acc'.size = vs.length := by rw [hacc.1, hsz]
    rcases Nat.lt_or_ge j acc'.size with hj | hj
    · have e1 : acc'[j]? = some acc'[j] := Array.getElem?_eq_getElem hj
      have e2 := hacc.2 j _ e1
      have e3 : vs.toArray[vs.toArray.size - 1 - j]? = vs[vs.length - 1 - j]? := by rw [hsz]; simp
      rw [Array.getElem?_toList, e1, ← e2, e3, List.getElem?_reverse (by omega)]
    · rw [Array.getElem?_toList, Array.getElem?_eq_none hj, List.getElem?_eq_none (by rw [List.length_reverse]; omega)]
  refine wpAny_pure ?_
  show Q acc'.toList s'
  rw [hacc2]
  exact hQ s' (Moved.drop_new (o := { cls := .type "list", data := .seq ([] : List Value).toArray }) (tk := s.toks) hm (Nat.le_refl _))
/-- a join over a reversed list -/
theorem join_lri {Q : Value → Shared → Prop} {x : Str} {t : Tok} {ys : List Str} (hh : A.in1.in1.handled = none) (hne : l ≠ I) (hit : s.heap.IsRevIter I l ((vs.length : Int) - 1)) (hl : s.heap.IsList l vs.toArray) (hy : StrsAre vs ys)
    (hok : JoinOk x ys.reverse = true) (hn : vs.length ≤ sizeLine)
    (hQ : ∀ s' k t', Moved [I] (fun a b => b = a) s s' → Q (.str (Txt.join x ys.reverse) t') { s' with toks := k }) :
    wpAny (model prog w) A (call (.builtin "str.join") [.str x t, .ref I]) Q E s := by
  refine wpAny_call (codeAny_call_builtin F.slot_str_join.plain F.entry_str_join (F.slot_str_join.check _ _ _ _ _ _ _ _ (typeIs_str _ _ _) (F.args_str_join_2 _ _) ?_))
  rw [join_tree_other]
  refine wpAny_bind (wpAny_typeOf hit.typeIs ?_)
  show wpAny _ A.in1 ((pyIter (.ref I)).tryCatch _ >>= fun it => collect it >>= fun items => joinTail x items) _ _ s
  refine wpAny_bind (wpAny_tryCatch (wpAny_pyIter_revIter hit ?_))
  refine wpAny_bind (collect_lri hh hne hit hl (fun s' hm => ?_) hn)
  obtain ⟨l, e1, e2⟩ := strsAre_values hy
  have e3 : vs.reverse = strValues l.reverse := by rw [e1]; simp [strValues]
  have e4 : l.reverse.map (·.1) = ys.reverse := by rw [List.map_reverse, e2]
  rw [e3]
  rw [← e4] at hok hQ
  generalize l.reverse = l' at hok hQ
  unfold JoinOk at hok
  rw [Bool.not_eq_true'] at hok
  have g : Gives (joinTail x (strValues l')) (joinMade x l') := by
    have g0 := gives_joinTail x l' hok
    cases l' with
    | nil => exact g0
    | cons p r => cases r with
      | nil => exact g0
      | cons q r' => exact g0
  exact g prog w A (wants Q E) s' (post_join l' ⟨joinFit_length hok, fun t' k => hQ s' k t' hm⟩)
/-- the same, told over a ledger -/
theorem join_lri_K {Q : Value → Shared → Prop} {h₀ : Heap} {L : Addr} {m : Str → Option Value} {news news' : Led} {x : Str} {t : Tok} {ys : List Str} {n : Nat} (hh : A.in1.in1.handled = none) (F : Fr h₀ L s.heap m) (N : News h₀ L s.heap news) (hR : Rm (I, revObj l ((vs.length : Int) - 1)) news news')
    (hl : (l, listOf vs.toArray n) ∈ news) (hoff : ∀ p ∈ news', p.1 ≠ I) (hne : l ≠ I) (hy : StrsAre vs ys) (hok : JoinOk x ys.reverse = true) (hn : vs.length ≤ 1000000)
    (hQ : ∀ h' k t', Fr h₀ L h' m → News h₀ L h' news' → Q (.str (Txt.join x ys.reverse) t') { s with heap := h', toks := k }) :
    wpAny (model prog w) A (call (.builtin "str.join") [.str x t, .ref I]) Q E s := by
  have hI := N _ (hR.mem _ (.head _))
  refine join_lri hh hne ⟨_, hI.1, rfl, rfl⟩ ⟨_, (N _ hl).1, rfl, n, rfl⟩ hy hok (by rw [sizeLine_eq]; omega) fun s' k t' hm => ?_
  obtain ⟨h', g', d', t'', o'⟩ := s'
  obtain ⟨m1, m2, m3, m4, _⟩ := hm
  have m2 : g' = s.gens := m2
  have m3 : d' = s.drawn := m3
  have m4 : o' = s.os := m4
  subst m2 m3 m4
  refine hQ h' k t' ⟨F.ns.at fun o e => m1 L o (fun h => hI.2.1 (List.mem_singleton.mp h).symm) e, fun b o e => m1 b o (fun h => ?_) (F.keep b o e), F.above⟩ fun p hp => ?_
  · have hb : b = I := List.mem_singleton.mp h
    rw [hb] at e
    rw [hI.2.2] at e
    cases e
  · have h3 := N p (hR.mem _ (.tail _ hp))
    exact ⟨m1 p.1 p.2 (fun h => hoff p hp (List.mem_singleton.mp h)) h3.1, h3.2.1, h3.2.2⟩
end
end
example : True ∧ True := by
  try walk1
  repeat (first | trivial | constructor)
section
-- part D1

/-- the last char of a text, as a text -/
noncomputable def lastOf (t : Str) : Str := Txt.item t ((t.length : Int) - 1)
/-- the hashes of a Writer's dict -/
structure WrH where
  (a1 a2 a3 a4 a5 a6 a7 a8 a9 a10 a11 : Int) (b1 b2 b3 b4 b5 b6 b7 b8 b9 b10 b11 : Tok)
noncomputable abbrev wrDict (H : WrH) (nb : Bool) (xs xo an at' lo lw : Nat) (la : Str) (ta : Tok) : Obj :=
  dictOf [⟨H.a1, .str (Str.ofString "symbols") H.b1, .ref xs⟩, ⟨H.a2, .str (Str.ofString "operators") H.b2, .ref xo⟩, ⟨H.a3, .str (Str.ofString "quoted") H.b3, .bool true⟩, ⟨H.a4, .str (Str.ofString "ignore_ops") H.b4, .bool false⟩, ⟨H.a5, .str (Str.ofString "numbervars") H.b5, .bool nb⟩, ⟨H.a6, .str (Str.ofString "names") H.b6, .ref an⟩, ⟨H.a7, .str (Str.ofString "taken") H.b7, .ref at'⟩, ⟨H.a8, .str (Str.ofString "out") H.b8, .ref lo⟩, ⟨H.a9, .str (Str.ofString "last") H.b9, .str la ta⟩, ⟨H.a10, .str (Str.ofString "prefixed") H.b10, .bool false⟩, ⟨H.a11, .str (Str.ofString "work") H.b11, .ref lw⟩] 11
section
local macro_rules | `(tactic| walk_at "call builtin:len") => `(tactic| (k_here; (with_reducible show wpAny _ _ (call (Value.builtin "len") [Value.str _ _]) _ _ _); (refine SBL.len (by omega) ?_)))
local macro_rules | `(tactic| walk_at "subscriptTail") => `(tactic| (k_here; (with_reducible show wpAny _ _ (subscriptTail _ _ (Value.str _ _) (Value.int _ _)) _ _ _); (refine KXi.item rfl (by omega) (by omega) (by omega) ?_); intro kxiE))
set_option maxHeartbeats 8000000 in
theorem raw_spec {w : World} {mean : ExcName → Option Value} {mg mb : Str → Option Value} {rest : Led} {x dx xs xo an at' lo lw : Nat} {nb : Bool} {H : WrH} {no : Nat} {la t : Str} {ta tt : Tok} {O : List Value}
    (hlen : O.length ≤ 10000) (ht : (t != Str.ofString "") = true) (hl1 : 1 ≤ t.length) (hl2 : t.length ≤ 1000) (o1 : Off dx rest) (o2 : Off lo rest) (n1 : x ≠ dx) (n2 : x ≠ lo) (n3 : dx ≠ lo) :
    Does 3 w mean mg mb 364 [.ref x, .str t tt] ((x, instObj 472 dx) :: (dx, wrDict H nb xs xo an at' lo lw la ta) :: (lo, listOf O.toArray no) :: rest)
      (fun K => ∀ ta' no', K .none ((x, instObj 472 dx) :: (dx, wrDict H nb xs xo an at' lo lw (lastOf t) ta') :: (lo, listOf (O ++ [Value.str t tt]).toArray no') :: rest)) := by
  unfold Does
  intro dp un gd cn cs fa ccd cl outer A₀ base h₀ L m s Q E B F X N Tp hk hd hu hret
  have n4 := n3.symm
  dsimp only [wrDict] at N
  refine wpAny_call ?_
  k_dflt cell_enter
  k_steps
  all_goals first | (rename (t != Str.ofString "") = false => hbad; rw [ht] at hbad; cases hbad) | skip
  rename_i kF kN _ _
  exact hret _ (no + 1) _ _ kF (by rw [List.push_toArray] at kN; exact kN)
end
theorem in_str_c {w : World} {A : Around} {E : Value → Shared → Prop} {s : Shared} {x y : Str} {t u : Tok} {Q : Value → Shared → Prop} (b : Bool) (hb : (!(Builtin.Str.occurrences x y 0 x.length 1).isEmpty) = b) (h : Q (.bool b) s) : wpAny (model P0 w) A (compareOp .In (.str y u) (.str x t)) Q E s :=
  P.in_str (by rw [hb]; exact h)
local macro_rules | `(tactic| walk_at "compareOp In str str") => `(tactic| (k_here; first | refine in_str_c true (by decide +kernel) ?_ | refine in_str_c false (by decide +kernel) ?_))
noncomputable def Lasts4 : List Str := [Str.ofString "", Str.ofString "[", Str.ofString ",", Str.ofString "("]
noncomputable def Cd (c : Int) : Prop := c = 91 ∨ c = 44 ∨ c = 40
noncomputable def Ch (t : Str) : Prop := t = Str.ofString "[" ∨ t = Str.ofString "," ∨ t = Str.ofString "("
section
variable {prog : Program} {w : World} {A : Around} {E : Value → Shared → Prop} {s : Shared} {Q : Value → Shared → Prop}
theorem le_no {x y : Int} {t u : Tok} (h : ¬ x ≤ y) (k : Q (.bool false) s) : wpAny (model prog w) A (compareOp .LtE (.int x t) (.int y u)) Q E s := le_int (by rw [decide_eq_false h]; exact k)
theorem le_yes {x y : Int} {t u : Tok} (h : x ≤ y) (k : Q (.bool true) s) : wpAny (model prog w) A (compareOp .LtE (.int x t) (.int y u)) Q E s := le_int (by rw [decide_eq_true h]; exact k)
theorem eq_no {x y : Int} {t u : Tok} (h : ¬ x = y) (k : Q (.bool false) s) : wpAny (model prog w) A (compareOp .Eq (.int x t) (.int y u)) Q E s := eq_int (by rw [beq_eq_false_iff_ne.mpr h]; exact k)
theorem ge_no {x y : Int} {t u : Tok} (h : ¬ x ≥ y) (k : Q (.bool false) s) : wpAny (model prog w) A (compareOp .GtE (.int x t) (.int y u)) Q E s := ge_int (by rw [decide_eq_false h]; exact k)
theorem ord_ch {t : Str} {u : Tok} (h : Ch t) (k : ∀ c v t', Cd c → Q (.int c v) { s with toks := t' }) : wpAny (model prog w) A (call (.builtin "ord") [.str t u]) Q E s := by
  rcases h with rfl | rfl | rfl
  · exact ord_of_one (by decide +kernel) (k _ _ _ (.inl (by decide +kernel)))
  · exact ord_of_one (by decide +kernel) (k _ _ _ (.inr (.inl (by decide +kernel))))
  · exact ord_of_one (by decide +kernel) (k _ _ _ (.inr (.inr (by decide +kernel))))
theorem seq_no {t y : Str} {u v : Tok} (h : Ch t) (hy : (Str.ofString "[" == y || Str.ofString "," == y || Str.ofString "(" == y) = false) (k : Q (.bool false) s) : wpAny (model prog w) A (compareOp .Eq (.str t u) (.str y v)) Q E s := by
  have e : (t == y) = false := by
    simp only [Bool.or_eq_false_iff] at hy
    rcases h with rfl | rfl | rfl
    · exact hy.1.1
    · exact hy.1.2
    · exact hy.2
  exact eq_str (by rw [e]; exact k)
end
local macro_rules | `(tactic| walk_at "compareOp LtE int int") => `(tactic| (k_here; first | refine le_no (by omega) ?_ | refine le_yes (by omega) ?_))
local macro_rules | `(tactic| walk_at "compareOp Eq int int") => `(tactic| (k_here; refine eq_no (by omega) ?_))
local macro_rules | `(tactic| walk_at "compareOp GtE int int") => `(tactic| (k_here; refine ge_no (by omega) ?_))
set_option maxHeartbeats 8000000 in
theorem small_no {w : World} {mean : ExcName → Option Value} {mg mb : Str → Option Value} {rest : Led} {c : Int} {tc : Tok} (hc : Cd c) : Does 1 w mean mg mb 147 [.int c tc] rest (fun K => K (.bool false) rest) := by
  unfold Does
  intro dp un gd cn cs fa ccd cl outer A₀ base h₀ L m s Q E B F X N Tp hk hd hu hret
  unfold Cd at hc
  refine wpAny_call ?_
  k_dflt cell_enter
  k_steps
  all_goals (rename Fr _ _ _ _ => kF; rename News _ _ _ _ => kN; exact hret _ _ kF kN)
set_option maxHeartbeats 8000000 in
theorem cap_no {w : World} {mean : ExcName → Option Value} {mg mb : Str → Option Value} {rest : Led} {c : Int} {tc : Tok} (hc : Cd c) : Does 1 w mean mg mb 154 [.int c tc] rest (fun K => K (.bool false) rest) := by
  unfold Does
  intro dp un gd cn cs fa ccd cl outer A₀ base h₀ L m s Q E B F X N Tp hk hd hu hret
  unfold Cd at hc
  refine wpAny_call ?_
  k_dflt cell_enter
  k_steps
  all_goals (rename Fr _ _ _ _ => kF; rename News _ _ _ _ => kN; first | exact hret _ _ kF kN | (rename ¬ _ ≤ _ => e9; rw [decide_eq_false e9]; exact hret _ _ kF kN))
set_option maxHeartbeats 8000000 in
theorem digit_no {w : World} {mean : ExcName → Option Value} {mg mb : Str → Option Value} {rest : Led} {c : Int} {tc : Tok} (hc : Cd c) : Does 1 w mean mg mb 140 [.int c tc] rest (fun K => K (.bool false) rest) := by
  unfold Does
  intro dp un gd cn cs fa ccd cl outer A₀ base h₀ L m s Q E B F X N Tp hk hd hu hret
  unfold Cd at hc
  refine wpAny_call ?_
  k_dflt cell_enter
  k_steps
  all_goals (rename Fr _ _ _ _ => kF; rename News _ _ _ _ => kN; first | exact hret _ _ kF kN | (rename ¬ _ ≤ _ => e9; rw [decide_eq_false e9]; exact hret _ _ kF kN))
local macro_rules | `(tactic| walk_at "call ref") => `(tactic| (k_here; (with_unfolding_all show wpAny _ _ (call (Value.ref _) [Value.int _ _]) _ _ _); refine stopper ?_))
set_option maxHeartbeats 8000000 in
theorem alnum_no {w : World} {mean : ExcName → Option Value} {mg mb : Str → Option Value} {rest : Led} {c : Int} {tc : Tok} (hc : Cd c) : Does 2 w mean mg mb 161 [.int c tc] rest (fun K => K (.bool false) rest) := by
  unfold Does
  intro dp un gd cn cs fa ccd cl outer A₀ base h₀ L m s Q E B F X N Tp hk hd hu hret
  have hc2 := hc
  unfold Cd at hc2
  refine wpAny_call ?_
  k_dflt cell_enter
  (k_steps; (repeat' (unfold Stop; first | (k_dflt (refine' does_use ?Bx1 ?Fx1 ?Xx1 ?Nx1 ?Tx1 ?hkx1 (small_no ?a1x1) ?pkx1 ?hdx1 ?hux1 ?_; (case Bx1 => k_asm); (case Fx1 => k_asm); (case Xx1 => k_asm); (case Nx1 => k_asm); (case Tx1 => k_asm); (case hkx1 => first | exact rfl | assumption); (case pkx1 => exact Pk.nil); (case a1x1 => assumption); (case hdx1 => ktr_room); (case hux1 => ktr_units)); intro  _ _ _ _; (try dsimp only); (try k_steps)) | (k_dflt (refine' does_use ?Bx2 ?Fx2 ?Xx2 ?Nx2 ?Tx2 ?hkx2 (cap_no ?a1x2) ?pkx2 ?hdx2 ?hux2 ?_; (case Bx2 => k_asm); (case Fx2 => k_asm); (case Xx2 => k_asm); (case Nx2 => k_asm); (case Tx2 => k_asm); (case hkx2 => first | exact rfl | assumption); (case pkx2 => exact Pk.nil); (case a1x2 => assumption); (case hdx2 => ktr_room); (case hux2 => ktr_units)); intro  _ _ _ _; (try dsimp only); (try k_steps)) | (k_dflt (refine' does_use ?Bx3 ?Fx3 ?Xx3 ?Nx3 ?Tx3 ?hkx3 (digit_no ?a1x3) ?pkx3 ?hdx3 ?hux3 ?_; (case Bx3 => k_asm); (case Fx3 => k_asm); (case Xx3 => k_asm); (case Nx3 => k_asm); (case Tx3 => k_asm); (case hkx3 => first | exact rfl | assumption); (case pkx3 => exact Pk.nil); (case a1x3 => assumption); (case hdx3 => ktr_room); (case hux3 => ktr_units)); intro  _ _ _ _; (try dsimp only); (try k_steps)))))
  all_goals (rename Fr _ _ _ _ => kF; rename News _ _ _ _ => kN; exact hret _ _ kF kN)
set_option maxHeartbeats 8000000 in
theorem symbol_no {w : World} {mean : ExcName → Option Value} {mg mb : Str → Option Value} {rest : Led} {c : Int} {tc : Tok} (hc : Cd c) : Does 2 w mean mg mb 168 [.int c tc] rest (fun K => K (.bool false) rest) := by
  unfold Does
  intro dp un gd cn cs fa ccd cl outer A₀ base h₀ L m s Q E B F X N Tp hk hd hu hret
  rcases hc with rfl | rfl | rfl
  all_goals refine wpAny_call ?_
  all_goals k_dflt cell_enter
  all_goals (k_steps; (repeat' (unfold Stop; first | (k_dflt (refine' does_use ?Bx4 ?Fx4 ?Xx4 ?Nx4 ?Tx4 ?hkx4 (small_no ?a1x4) ?pkx4 ?hdx4 ?hux4 ?_; (case Bx4 => k_asm); (case Fx4 => k_asm); (case Xx4 => k_asm); (case Nx4 => k_asm); (case Tx4 => k_asm); (case hkx4 => first | exact rfl | assumption); (case pkx4 => exact Pk.nil); (case a1x4 => assumption); (case hdx4 => ktr_room); (case hux4 => ktr_units)); intro  _ _ _ _; (try dsimp only); (try k_steps)) | (k_dflt (refine' does_use ?Bx5 ?Fx5 ?Xx5 ?Nx5 ?Tx5 ?hkx5 (cap_no ?a1x5) ?pkx5 ?hdx5 ?hux5 ?_; (case Bx5 => k_asm); (case Fx5 => k_asm); (case Xx5 => k_asm); (case Nx5 => k_asm); (case Tx5 => k_asm); (case hkx5 => first | exact rfl | assumption); (case pkx5 => exact Pk.nil); (case a1x5 => assumption); (case hdx5 => ktr_room); (case hux5 => ktr_units)); intro  _ _ _ _; (try dsimp only); (try k_steps)) | (k_dflt (refine' does_use ?Bx6 ?Fx6 ?Xx6 ?Nx6 ?Tx6 ?hkx6 (digit_no ?a1x6) ?pkx6 ?hdx6 ?hux6 ?_; (case Bx6 => k_asm); (case Fx6 => k_asm); (case Xx6 => k_asm); (case Nx6 => k_asm); (case Tx6 => k_asm); (case hkx6 => first | exact rfl | assumption); (case pkx6 => exact Pk.nil); (case a1x6 => assumption); (case hdx6 => ktr_room); (case hux6 => ktr_units)); intro  _ _ _ _; (try dsimp only); (try k_steps)))))
  all_goals (rename Fr _ _ _ _ => kF; rename News _ _ _ _ => kN; exact hret _ _ kF kN)
local macro_rules | `(tactic| walk_at "call builtin:ord") => `(tactic| (k_here; refine ord_ch (by assumption) ?_; intro c9 v9 t9 hc9; (have hc8 := hc9); unfold Cd at hc8))
local macro_rules | `(tactic| walk_at "compareOp Eq str str") => `(tactic| (k_here; refine seq_no (by assumption) (by decide +kernel) ?_))
set_option maxHeartbeats 8000000 in
theorem word_no {w : World} {mean : ExcName → Option Value} {mg mb : Str → Option Value} {rest : Led} {c : Str} {tc : Tok} (hc : Ch c) : Does 3 w mean mg mb 327 [.str c tc] rest (fun K => K (.bool false) rest) := by
  unfold Does
  intro dp un gd cn cs fa ccd cl outer A₀ base h₀ L m s Q E B F X N Tp hk hd hu hret
  refine wpAny_call ?_
  k_dflt cell_enter
  (k_steps; (repeat' (unfold Stop; first | (k_dflt (refine' does_use ?Bx7 ?Fx7 ?Xx7 ?Nx7 ?Tx7 ?hkx7 (small_no ?a1x7) ?pkx7 ?hdx7 ?hux7 ?_; (case Bx7 => k_asm); (case Fx7 => k_asm); (case Xx7 => k_asm); (case Nx7 => k_asm); (case Tx7 => k_asm); (case hkx7 => first | exact rfl | assumption); (case pkx7 => exact Pk.nil); (case a1x7 => assumption); (case hdx7 => ktr_room); (case hux7 => ktr_units)); intro  _ _ _ _; (try dsimp only); (try k_steps)) | (k_dflt (refine' does_use ?Bx8 ?Fx8 ?Xx8 ?Nx8 ?Tx8 ?hkx8 (cap_no ?a1x8) ?pkx8 ?hdx8 ?hux8 ?_; (case Bx8 => k_asm); (case Fx8 => k_asm); (case Xx8 => k_asm); (case Nx8 => k_asm); (case Tx8 => k_asm); (case hkx8 => first | exact rfl | assumption); (case pkx8 => exact Pk.nil); (case a1x8 => assumption); (case hdx8 => ktr_room); (case hux8 => ktr_units)); intro  _ _ _ _; (try dsimp only); (try k_steps)) | (k_dflt (refine' does_use ?Bx9 ?Fx9 ?Xx9 ?Nx9 ?Tx9 ?hkx9 (digit_no ?a1x9) ?pkx9 ?hdx9 ?hux9 ?_; (case Bx9 => k_asm); (case Fx9 => k_asm); (case Xx9 => k_asm); (case Nx9 => k_asm); (case Tx9 => k_asm); (case hkx9 => first | exact rfl | assumption); (case pkx9 => exact Pk.nil); (case a1x9 => assumption); (case hdx9 => ktr_room); (case hux9 => ktr_units)); intro  _ _ _ _; (try dsimp only); (try k_steps)) | (k_dflt (refine' does_use ?Bx10 ?Fx10 ?Xx10 ?Nx10 ?Tx10 ?hkx10 (alnum_no ?a1x10) ?pkx10 ?hdx10 ?hux10 ?_; (case Bx10 => k_asm); (case Fx10 => k_asm); (case Xx10 => k_asm); (case Nx10 => k_asm); (case Tx10 => k_asm); (case hkx10 => first | exact rfl | assumption); (case pkx10 => exact Pk.nil); (case a1x10 => assumption); (case hdx10 => ktr_room); (case hux10 => ktr_units)); intro  _ _ _ _; (try dsimp only); (try k_steps)) | (k_dflt (refine' does_use ?Bx11 ?Fx11 ?Xx11 ?Nx11 ?Tx11 ?hkx11 (symbol_no ?a1x11) ?pkx11 ?hdx11 ?hux11 ?_; (case Bx11 => k_asm); (case Fx11 => k_asm); (case Xx11 => k_asm); (case Nx11 => k_asm); (case Tx11 => k_asm); (case hkx11 => first | exact rfl | assumption); (case pkx11 => exact Pk.nil); (case a1x11 => assumption); (case hdx11 => ktr_room); (case hux11 => ktr_units)); intro  _ _ _ _; (try dsimp only); (try k_steps)))))
  all_goals (rename Fr _ _ _ _ => kF; rename News _ _ _ _ => kN; exact hret _ _ kF kN)
set_option maxHeartbeats 8000000 in
theorem needs_spec {w : World} {mean : ExcName → Option Value} {mg mb : Str → Option Value} {rest : Led} {x dx xs xo an at' lo lw : Nat} {nb : Bool} {H : WrH} {la f : Str} {ta tf : Tok} (hla : la ∈ Lasts4) :
    Does 5 w mean mg mb 378 [.ref x, .str f tf] ((x, instObj 472 dx) :: (dx, wrDict H nb xs xo an at' lo lw la ta) :: rest) (fun K => K (.bool false) ((x, instObj 472 dx) :: (dx, wrDict H nb xs xo an at' lo lw la ta) :: rest)) := by
  unfold Does
  intro dp un gd cn cs fa ccd cl outer A₀ base h₀ L m s Q E B F X N Tp hk hd hu hret
  unfold Lasts4 at hla
  simp only [List.mem_cons, List.not_mem_nil, or_false] at hla
  rcases hla with rfl | hc
  · refine wpAny_call ?_
    k_dflt cell_enter
    (k_steps; (repeat' (unfold Stop; first | (k_dflt (refine' does_use ?Bx12 ?Fx12 ?Xx12 ?Nx12 ?Tx12 ?hkx12 (small_no ?a1x12) ?pkx12 ?hdx12 ?hux12 ?_; (case Bx12 => k_asm); (case Fx12 => k_asm); (case Xx12 => k_asm); (case Nx12 => k_asm); (case Tx12 => k_asm); (case hkx12 => first | exact rfl | assumption); (case pkx12 => exact Pk.nil); (case a1x12 => assumption); (case hdx12 => ktr_room); (case hux12 => ktr_units)); intro  _ _ _ _; (try dsimp only); (try k_steps)) | (k_dflt (refine' does_use ?Bx13 ?Fx13 ?Xx13 ?Nx13 ?Tx13 ?hkx13 (cap_no ?a1x13) ?pkx13 ?hdx13 ?hux13 ?_; (case Bx13 => k_asm); (case Fx13 => k_asm); (case Xx13 => k_asm); (case Nx13 => k_asm); (case Tx13 => k_asm); (case hkx13 => first | exact rfl | assumption); (case pkx13 => exact Pk.nil); (case a1x13 => assumption); (case hdx13 => ktr_room); (case hux13 => ktr_units)); intro  _ _ _ _; (try dsimp only); (try k_steps)) | (k_dflt (refine' does_use ?Bx14 ?Fx14 ?Xx14 ?Nx14 ?Tx14 ?hkx14 (digit_no ?a1x14) ?pkx14 ?hdx14 ?hux14 ?_; (case Bx14 => k_asm); (case Fx14 => k_asm); (case Xx14 => k_asm); (case Nx14 => k_asm); (case Tx14 => k_asm); (case hkx14 => first | exact rfl | assumption); (case pkx14 => exact Pk.nil); (case a1x14 => assumption); (case hdx14 => ktr_room); (case hux14 => ktr_units)); intro  _ _ _ _; (try dsimp only); (try k_steps)) | (k_dflt (refine' does_use ?Bx15 ?Fx15 ?Xx15 ?Nx15 ?Tx15 ?hkx15 (alnum_no ?a1x15) ?pkx15 ?hdx15 ?hux15 ?_; (case Bx15 => k_asm); (case Fx15 => k_asm); (case Xx15 => k_asm); (case Nx15 => k_asm); (case Tx15 => k_asm); (case hkx15 => first | exact rfl | assumption); (case pkx15 => exact Pk.nil); (case a1x15 => assumption); (case hdx15 => ktr_room); (case hux15 => ktr_units)); intro  _ _ _ _; (try dsimp only); (try k_steps)) | (k_dflt (refine' does_use ?Bx16 ?Fx16 ?Xx16 ?Nx16 ?Tx16 ?hkx16 (symbol_no ?a1x16) ?pkx16 ?hdx16 ?hux16 ?_; (case Bx16 => k_asm); (case Fx16 => k_asm); (case Xx16 => k_asm); (case Nx16 => k_asm); (case Tx16 => k_asm); (case hkx16 => first | exact rfl | assumption); (case pkx16 => exact Pk.nil); (case a1x16 => assumption); (case hdx16 => ktr_room); (case hux16 => ktr_units)); intro  _ _ _ _; (try dsimp only); (try k_steps)) | (k_dflt (refine' does_use ?Bx17 ?Fx17 ?Xx17 ?Nx17 ?Tx17 ?hkx17 (word_no ?a1x17) ?pkx17 ?hdx17 ?hux17 ?_; (case Bx17 => k_asm); (case Fx17 => k_asm); (case Xx17 => k_asm); (case Nx17 => k_asm); (case Tx17 => k_asm); (case hkx17 => first | exact rfl | assumption); (case pkx17 => exact Pk.nil); (case a1x17 => assumption); (case hdx17 => ktr_room); (case hux17 => ktr_units)); intro  _ _ _ _; (try dsimp only); (try k_steps)) | (k_dflt (refine' does_use ?Bx18 ?Fx18 ?Xx18 ?Nx18 ?Tx18 ?hkx18 (needs_spec ?a1x18) ?pkx18 ?hdx18 ?hux18 ?_; (case Bx18 => k_asm); (case Fx18 => k_asm); (case Xx18 => k_asm); (case Nx18 => k_asm); (case Tx18 => k_asm); (case hkx18 => first | exact rfl | assumption); (case pkx18 => (refine' Pk.cons ?q1x18 (Pk.cons ?q2x18 Pk.nil); (case q1x18 => kbt_split); (case q2x18 => kbt_split))); (case a1x18 => assumption); (case hdx18 => ktr_room); (case hux18 => ktr_units)); intro  _ _ _ _; (try dsimp only); (try k_steps)) | (k_dflt (refine' does_use ?Bx19 ?Fx19 ?Xx19 ?Nx19 ?Tx19 ?hkx19 (raw_spec ?a1x19 ?a2x19 ?a3x19 ?a4x19 ?a5x19 ?a6x19 ?a7x19 ?a8x19 ?a9x19) ?pkx19 ?hdx19 ?hux19 ?_; (case Bx19 => k_asm); (case Fx19 => k_asm); (case Xx19 => k_asm); (case Nx19 => k_asm); (case Tx19 => k_asm); (case hkx19 => first | exact rfl | assumption); (case pkx19 => (refine' Pk.cons ?q1x19 (Pk.cons ?q2x19 (Pk.cons ?q3x19 Pk.nil)); (case q1x19 => kbt_split); (case q2x19 => kbt_split); (case q3x19 => kbt_split))); (case a1x19 => omega); (case a2x19 => first | assumption | decide); (case a3x19 => first | assumption | decide); (case a4x19 => first | assumption | decide); (case a5x19 => k_all); (case a6x19 => k_all); (case a7x19 => k_ne); (case a8x19 => k_ne); (case a9x19 => k_ne); (case hdx19 => ktr_room); (case hux19 => ktr_units)); intro _ _ _ _ _ _; (try dsimp only); (try k_steps)))))
    all_goals (rename Fr _ _ _ _ => kF; rename News _ _ _ _ => kN; exact hret _ _ kF kN)
  · replace hc : Ch la := hc
    refine wpAny_call ?_
    k_dflt cell_enter
    (k_steps; (repeat' (unfold Stop; first | (k_dflt (refine' does_use ?Bx20 ?Fx20 ?Xx20 ?Nx20 ?Tx20 ?hkx20 (small_no ?a1x20) ?pkx20 ?hdx20 ?hux20 ?_; (case Bx20 => k_asm); (case Fx20 => k_asm); (case Xx20 => k_asm); (case Nx20 => k_asm); (case Tx20 => k_asm); (case hkx20 => first | exact rfl | assumption); (case pkx20 => exact Pk.nil); (case a1x20 => assumption); (case hdx20 => ktr_room); (case hux20 => ktr_units)); intro  _ _ _ _; (try dsimp only); (try k_steps)) | (k_dflt (refine' does_use ?Bx21 ?Fx21 ?Xx21 ?Nx21 ?Tx21 ?hkx21 (cap_no ?a1x21) ?pkx21 ?hdx21 ?hux21 ?_; (case Bx21 => k_asm); (case Fx21 => k_asm); (case Xx21 => k_asm); (case Nx21 => k_asm); (case Tx21 => k_asm); (case hkx21 => first | exact rfl | assumption); (case pkx21 => exact Pk.nil); (case a1x21 => assumption); (case hdx21 => ktr_room); (case hux21 => ktr_units)); intro  _ _ _ _; (try dsimp only); (try k_steps)) | (k_dflt (refine' does_use ?Bx22 ?Fx22 ?Xx22 ?Nx22 ?Tx22 ?hkx22 (digit_no ?a1x22) ?pkx22 ?hdx22 ?hux22 ?_; (case Bx22 => k_asm); (case Fx22 => k_asm); (case Xx22 => k_asm); (case Nx22 => k_asm); (case Tx22 => k_asm); (case hkx22 => first | exact rfl | assumption); (case pkx22 => exact Pk.nil); (case a1x22 => assumption); (case hdx22 => ktr_room); (case hux22 => ktr_units)); intro  _ _ _ _; (try dsimp only); (try k_steps)) | (k_dflt (refine' does_use ?Bx23 ?Fx23 ?Xx23 ?Nx23 ?Tx23 ?hkx23 (alnum_no ?a1x23) ?pkx23 ?hdx23 ?hux23 ?_; (case Bx23 => k_asm); (case Fx23 => k_asm); (case Xx23 => k_asm); (case Nx23 => k_asm); (case Tx23 => k_asm); (case hkx23 => first | exact rfl | assumption); (case pkx23 => exact Pk.nil); (case a1x23 => assumption); (case hdx23 => ktr_room); (case hux23 => ktr_units)); intro  _ _ _ _; (try dsimp only); (try k_steps)) | (k_dflt (refine' does_use ?Bx24 ?Fx24 ?Xx24 ?Nx24 ?Tx24 ?hkx24 (symbol_no ?a1x24) ?pkx24 ?hdx24 ?hux24 ?_; (case Bx24 => k_asm); (case Fx24 => k_asm); (case Xx24 => k_asm); (case Nx24 => k_asm); (case Tx24 => k_asm); (case hkx24 => first | exact rfl | assumption); (case pkx24 => exact Pk.nil); (case a1x24 => assumption); (case hdx24 => ktr_room); (case hux24 => ktr_units)); intro  _ _ _ _; (try dsimp only); (try k_steps)) | (k_dflt (refine' does_use ?Bx25 ?Fx25 ?Xx25 ?Nx25 ?Tx25 ?hkx25 (word_no ?a1x25) ?pkx25 ?hdx25 ?hux25 ?_; (case Bx25 => k_asm); (case Fx25 => k_asm); (case Xx25 => k_asm); (case Nx25 => k_asm); (case Tx25 => k_asm); (case hkx25 => first | exact rfl | assumption); (case pkx25 => exact Pk.nil); (case a1x25 => assumption); (case hdx25 => ktr_room); (case hux25 => ktr_units)); intro  _ _ _ _; (try dsimp only); (try k_steps)) | (k_dflt (refine' does_use ?Bx26 ?Fx26 ?Xx26 ?Nx26 ?Tx26 ?hkx26 (needs_spec ?a1x26) ?pkx26 ?hdx26 ?hux26 ?_; (case Bx26 => k_asm); (case Fx26 => k_asm); (case Xx26 => k_asm); (case Nx26 => k_asm); (case Tx26 => k_asm); (case hkx26 => first | exact rfl | assumption); (case pkx26 => (refine' Pk.cons ?q1x26 (Pk.cons ?q2x26 Pk.nil); (case q1x26 => kbt_split); (case q2x26 => kbt_split))); (case a1x26 => assumption); (case hdx26 => ktr_room); (case hux26 => ktr_units)); intro  _ _ _ _; (try dsimp only); (try k_steps)) | (k_dflt (refine' does_use ?Bx27 ?Fx27 ?Xx27 ?Nx27 ?Tx27 ?hkx27 (raw_spec ?a1x27 ?a2x27 ?a3x27 ?a4x27 ?a5x27 ?a6x27 ?a7x27 ?a8x27 ?a9x27) ?pkx27 ?hdx27 ?hux27 ?_; (case Bx27 => k_asm); (case Fx27 => k_asm); (case Xx27 => k_asm); (case Nx27 => k_asm); (case Tx27 => k_asm); (case hkx27 => first | exact rfl | assumption); (case pkx27 => (refine' Pk.cons ?q1x27 (Pk.cons ?q2x27 (Pk.cons ?q3x27 Pk.nil)); (case q1x27 => kbt_split); (case q2x27 => kbt_split); (case q3x27 => kbt_split))); (case a1x27 => omega); (case a2x27 => first | assumption | decide); (case a3x27 => first | assumption | decide); (case a4x27 => first | assumption | decide); (case a5x27 => k_all); (case a6x27 => k_all); (case a7x27 => k_ne); (case a8x27 => k_ne); (case a9x27 => k_ne); (case hdx27 => ktr_room); (case hux27 => ktr_units)); intro _ _ _ _ _ _; (try dsimp only); (try k_steps)))))
    all_goals (rename Fr _ _ _ _ => kF; rename News _ _ _ _ => kN; exact hret _ _ kF kN)
local macro_rules | `(tactic| walk_at "subscriptTail") => `(tactic| (k_here; (with_reducible show wpAny _ _ (subscriptTail _ _ (Value.str _ _) (Value.int _ _)) _ _ _); (refine KXi.item rfl (by omega) (by omega) (by omega) ?_); intro kxiE))
set_option maxHeartbeats 8000000 in
theorem token_spec {w : World} {mean : ExcName → Option Value} {mg mb : Str → Option Value} {rest : Led} {x dx xs xo an at' lo lw : Nat} {nb : Bool} {H : WrH} {no : Nat} {la t : Str} {ta tt : Tok} {O : List Value}
    (hla : la ∈ Lasts4) (hlen : O.length ≤ 10000) (ht : (t != Str.ofString "") = true) (hl1 : 1 ≤ t.length) (hl2 : t.length ≤ 1000) (o1 : Off dx rest) (o2 : Off lo rest) (n1 : x ≠ dx) (n2 : x ≠ lo) (n3 : dx ≠ lo) :
    Does 6 w mean mg mb 371 [.ref x, .str t tt] ((x, instObj 472 dx) :: (dx, wrDict H nb xs xo an at' lo lw la ta) :: (lo, listOf O.toArray no) :: rest)
      (fun K => ∀ ta' no', K .none ((x, instObj 472 dx) :: (dx, wrDict H nb xs xo an at' lo lw (lastOf t) ta') :: (lo, listOf (O ++ [Value.str t tt]).toArray no') :: rest)) := by
  unfold Does
  intro dp un gd cn cs fa ccd cl outer A₀ base h₀ L m s Q E B F X N Tp hk hd hu hret
  refine wpAny_call ?_
  k_dflt cell_enter
  (k_steps; (repeat' (unfold Stop; first | (k_dflt (refine' does_use ?Bx28 ?Fx28 ?Xx28 ?Nx28 ?Tx28 ?hkx28 (small_no ?a1x28) ?pkx28 ?hdx28 ?hux28 ?_; (case Bx28 => k_asm); (case Fx28 => k_asm); (case Xx28 => k_asm); (case Nx28 => k_asm); (case Tx28 => k_asm); (case hkx28 => first | exact rfl | assumption); (case pkx28 => exact Pk.nil); (case a1x28 => assumption); (case hdx28 => ktr_room); (case hux28 => ktr_units)); intro  _ _ _ _; (try dsimp only); (try k_steps)) | (k_dflt (refine' does_use ?Bx29 ?Fx29 ?Xx29 ?Nx29 ?Tx29 ?hkx29 (cap_no ?a1x29) ?pkx29 ?hdx29 ?hux29 ?_; (case Bx29 => k_asm); (case Fx29 => k_asm); (case Xx29 => k_asm); (case Nx29 => k_asm); (case Tx29 => k_asm); (case hkx29 => first | exact rfl | assumption); (case pkx29 => exact Pk.nil); (case a1x29 => assumption); (case hdx29 => ktr_room); (case hux29 => ktr_units)); intro  _ _ _ _; (try dsimp only); (try k_steps)) | (k_dflt (refine' does_use ?Bx30 ?Fx30 ?Xx30 ?Nx30 ?Tx30 ?hkx30 (digit_no ?a1x30) ?pkx30 ?hdx30 ?hux30 ?_; (case Bx30 => k_asm); (case Fx30 => k_asm); (case Xx30 => k_asm); (case Nx30 => k_asm); (case Tx30 => k_asm); (case hkx30 => first | exact rfl | assumption); (case pkx30 => exact Pk.nil); (case a1x30 => assumption); (case hdx30 => ktr_room); (case hux30 => ktr_units)); intro  _ _ _ _; (try dsimp only); (try k_steps)) | (k_dflt (refine' does_use ?Bx31 ?Fx31 ?Xx31 ?Nx31 ?Tx31 ?hkx31 (alnum_no ?a1x31) ?pkx31 ?hdx31 ?hux31 ?_; (case Bx31 => k_asm); (case Fx31 => k_asm); (case Xx31 => k_asm); (case Nx31 => k_asm); (case Tx31 => k_asm); (case hkx31 => first | exact rfl | assumption); (case pkx31 => exact Pk.nil); (case a1x31 => assumption); (case hdx31 => ktr_room); (case hux31 => ktr_units)); intro  _ _ _ _; (try dsimp only); (try k_steps)) | (k_dflt (refine' does_use ?Bx32 ?Fx32 ?Xx32 ?Nx32 ?Tx32 ?hkx32 (symbol_no ?a1x32) ?pkx32 ?hdx32 ?hux32 ?_; (case Bx32 => k_asm); (case Fx32 => k_asm); (case Xx32 => k_asm); (case Nx32 => k_asm); (case Tx32 => k_asm); (case hkx32 => first | exact rfl | assumption); (case pkx32 => exact Pk.nil); (case a1x32 => assumption); (case hdx32 => ktr_room); (case hux32 => ktr_units)); intro  _ _ _ _; (try dsimp only); (try k_steps)) | (k_dflt (refine' does_use ?Bx33 ?Fx33 ?Xx33 ?Nx33 ?Tx33 ?hkx33 (word_no ?a1x33) ?pkx33 ?hdx33 ?hux33 ?_; (case Bx33 => k_asm); (case Fx33 => k_asm); (case Xx33 => k_asm); (case Nx33 => k_asm); (case Tx33 => k_asm); (case hkx33 => first | exact rfl | assumption); (case pkx33 => exact Pk.nil); (case a1x33 => assumption); (case hdx33 => ktr_room); (case hux33 => ktr_units)); intro  _ _ _ _; (try dsimp only); (try k_steps)) | (k_dflt (refine' does_use ?Bx34 ?Fx34 ?Xx34 ?Nx34 ?Tx34 ?hkx34 (needs_spec ?a1x34) ?pkx34 ?hdx34 ?hux34 ?_; (case Bx34 => k_asm); (case Fx34 => k_asm); (case Xx34 => k_asm); (case Nx34 => k_asm); (case Tx34 => k_asm); (case hkx34 => first | exact rfl | assumption); (case pkx34 => (refine' Pk.cons ?q1x34 (Pk.cons ?q2x34 Pk.nil); (case q1x34 => kbt_split); (case q2x34 => kbt_split))); (case a1x34 => assumption); (case hdx34 => ktr_room); (case hux34 => ktr_units)); intro  _ _ _ _; (try dsimp only); (try k_steps)) | (k_dflt (refine' does_use ?Bx35 ?Fx35 ?Xx35 ?Nx35 ?Tx35 ?hkx35 (raw_spec ?a1x35 ?a2x35 ?a3x35 ?a4x35 ?a5x35 ?a6x35 ?a7x35 ?a8x35 ?a9x35) ?pkx35 ?hdx35 ?hux35 ?_; (case Bx35 => k_asm); (case Fx35 => k_asm); (case Xx35 => k_asm); (case Nx35 => k_asm); (case Tx35 => k_asm); (case hkx35 => first | exact rfl | assumption); (case pkx35 => (refine' Pk.cons ?q1x35 (Pk.cons ?q2x35 (Pk.cons ?q3x35 Pk.nil)); (case q1x35 => kbt_split); (case q2x35 => kbt_split); (case q3x35 => kbt_split))); (case a1x35 => omega); (case a2x35 => first | assumption | decide); (case a3x35 => first | assumption | decide); (case a4x35 => first | assumption | decide); (case a5x35 => k_all); (case a6x35 => k_all); (case a7x35 => k_ne); (case a8x35 => k_ne); (case a9x35 => k_ne); (case hdx35 => ktr_room); (case hux35 => ktr_units)); intro _ _ _ _ _ _; (try dsimp only); (try k_steps)))))
  all_goals first | (rename (t != Str.ofString "") = false => hbad; rw [ht] at hbad; cases hbad) | skip
  rename Fr _ _ _ _ => kF
  rename News _ _ _ _ => kN
  exact hret _ _ _ _ kF kN
end
example : True ∧ True := by
  try walk1
  repeat (first | trivial | constructor)
section
-- part D2

/-- the decimal text of the numbers that occur -/
noncomputable def numT (v : Int) : Str :=
  if v = 0 then Str.ofString "0" else if v = 1 then Str.ofString "1" else if v = 25 then Str.ofString "25" else if v = 26 then Str.ofString "26" else if v = 27 then Str.ofString "27" else if v = 700 then Str.ofString "700" else Str.ofString "-1"
noncomputable def Nums : List Int := [0, 1, 25, 26, 27, 700, -1]
local macro_rules | `(tactic| walk_at "call builtin:str.join") => `(tactic| (k_here; (with_reducible show wpAny _ _ (call (Value.builtin "str.join") [Value.str _ _, Value.ref _]) _ _ _); k_dflt (refine join_lri_K (by rfl) (by k_asm) (by k_asm) (by kbt_split) (by k_mem) (by k_all) (by k_ne) (by (repeat constructor)) (by with_unfolding_all rfl) (by with_unfolding_all exact Nat.le_of_ble_eq_true rfl) ?_); intro h9 k9 t9 F9 N9))
theorem num_neg {v : Int} (hv : v ∈ Nums) (h : v < 0) : JoinOk (Str.ofString "") [Str.ofString (toString (if v < 0 then -v else v)), Str.ofString "-"].reverse = true ∧ Txt.join (Str.ofString "") [Str.ofString (toString (if v < 0 then -v else v)), Str.ofString "-"].reverse = numT v := by
  have e : v = -1 := by
    unfold Nums at hv
    simp only [List.mem_cons, List.not_mem_nil, or_false] at hv
    omega
  subst e
  decide +kernel
theorem num_pos {v : Int} (hv : v ∈ Nums) (h : ¬ v < 0) : JoinOk (Str.ofString "") [Str.ofString (toString (if v < 0 then -v else v))].reverse = true ∧ Txt.join (Str.ofString "") [Str.ofString (toString (if v < 0 then -v else v))].reverse = numT v := by
  unfold Nums at hv
  simp only [List.mem_cons, List.not_mem_nil, or_false] at hv
  rcases hv with rfl | rfl | rfl | rfl | rfl | rfl | rfl <;> first | decide +kernel | exact absurd (by decide) h
local macro_rules | `(tactic| walk_at "compareOp GtE int int") => `(tactic| (k_here; refine ge_no (by rw [show (10 : Int) ^ Int.toNat 18 = 1000000000000000000 from by decide]; split <;> omega) ?_))
set_option maxHeartbeats 8000000 in
theorem number_spec {w : World} {mean : ExcName → Option Value} {mg mb : Str → Option Value} {rest : Led} {v : Int} {tv : Tok} (hv : v ∈ Nums) :
    Does 3 w mean mg mb 175 [.int v tv] rest (fun K => ∀ tk, K (.str (numT v) tk) rest) := by
  unfold Does
  intro dp un gd cn cs fa ccd cl outer A₀ base h₀ L m s Q E B F X N Tp hk hd hu hret
  have hb : -1 ≤ v ∧ v ≤ 700 := by
    unfold Nums at hv
    simp only [List.mem_cons, List.not_mem_nil, or_false] at hv
    omega
  refine wpAny_call ?_
  k_dflt cell_enter
  k_steps
  · rename v < 0 => h0
    rename News _ _ _ _ => lN
    rename Fr _ _ _ _ => lF
    obtain ⟨j1, j2⟩ := num_neg hv h0
    refine join_lri_K (by rfl) lF lN (by kbt_split) (by k_mem) (by k_all) (by k_ne) (by (repeat constructor)) j1 (Nat.le_of_ble_eq_true rfl) fun h' k t' F' N' => ?_
    rw [j2]
    clear lF lN
    k_steps
    rename Fr _ _ _ _ => kF
    rename News _ _ _ _ => kN
    exact hret _ _ _ kF (kti_tail kN)
  · rename ¬ v < 0 => h0
    rename News _ _ _ _ => lN
    rename Fr _ _ _ _ => lF
    obtain ⟨j1, j2⟩ := num_pos hv h0
    refine join_lri_K (by rfl) lF lN (by kbt_split) (by k_mem) (by k_all) (by k_ne) (by (repeat constructor)) j1 (Nat.le_of_ble_eq_true rfl) fun h' k t' F' N' => ?_
    rw [j2]
    clear lF lN
    k_steps
    rename Fr _ _ _ _ => kF
    rename News _ _ _ _ => kN
    exact hret _ _ _ kF (kti_tail kN)
/-- the letter and the turns -/
noncomputable def varT (v : Int) : Str := if v = 0 then Str.ofString "A" else if v = 25 then Str.ofString "Z" else if v = 26 then Str.ofString "A1" else if v = 27 then Str.ofString "B1" else Str.ofString "Y26"
theorem num_lo {v : Int} (hv : v ∈ [(0 : Int), 25, 26, 27, 700]) (h : v < 26) : (⟨#[(65 + Int.fmod v 26).toNat]⟩ : Str) = varT v := by
  simp only [List.mem_cons, List.not_mem_nil, or_false] at hv
  rcases hv with rfl | rfl | rfl | rfl | rfl <;> first | decide +kernel | exact absurd h (by decide)
theorem num_hi {v : Int} (hv : v ∈ [(0 : Int), 25, 26, 27, 700]) (h : ¬ v < 26) : (⟨#[(65 + Int.fmod v 26).toNat]⟩ : Str) ++ numT (Int.fdiv v 26) = varT v := by
  simp only [List.mem_cons, List.not_mem_nil, or_false] at hv
  rcases hv with rfl | rfl | rfl | rfl | rfl <;> first | decide +kernel | exact absurd (by decide) h
theorem num26 {v : Int} (hv : v ∈ [(0 : Int), 25, 26, 27, 700]) : 0 ≤ 65 + Int.fmod v 26 ∧ 65 + Int.fmod v 26 ≤ 1114111 ∧ Int.fdiv v 26 ∈ Nums ∧ (numT (Int.fdiv v 26)).length ≤ 3 := by
  simp only [List.mem_cons, List.not_mem_nil, or_false] at hv
  rcases hv with rfl | rfl | rfl | rfl | rfl <;> decide +kernel
set_option maxHeartbeats 8000000 in
theorem numbered_spec {w : World} {mean : ExcName → Option Value} {mg mb : Str → Option Value} {rest : Led} {v : Int} {tv : Tok} (hv : v ∈ [(0 : Int), 25, 26, 27, 700]) :
    Does 5 w mean mg mb 320 [.int v tv] rest (fun K => ∀ tk, K (.str (varT v) tk) rest) := by
  unfold Does
  intro dp un gd cn cs fa ccd cl outer A₀ base h₀ L m s Q E B F X N Tp hk hd hu hret
  obtain ⟨hn1, hn2, hn3, hn4⟩ := num26 hv
  refine wpAny_call ?_
  k_dflt cell_enter
  (k_steps; (repeat' (unfold Stop; first | (k_dflt (refine' does_use ?Bx1 ?Fx1 ?Xx1 ?Nx1 ?Tx1 ?hkx1 (number_spec ?a1x1) ?pkx1 ?hdx1 ?hux1 ?_; (case Bx1 => k_asm); (case Fx1 => k_asm); (case Xx1 => k_asm); (case Nx1 => k_asm); (case Tx1 => k_asm); (case hkx1 => first | exact rfl | assumption); (case pkx1 => exact Pk.nil); (case a1x1 => assumption); (case hdx1 => ktr_room); (case hux1 => ktr_units)); intro _ _ _ _ _; (try dsimp only); (try k_steps)))))
  · rename v < 26 => h0
    rename Fr _ _ _ _ => kF
    rename News _ _ _ _ => kN
    rw [← num_lo hv h0] at hret
    exact hret _ _ _ kF kN
  · rename ¬ v < 26 => h0
    rename Fr _ _ _ _ => kF
    rename News _ _ _ _ => kN
    rw [← num_hi hv h0] at hret
    exact hret _ _ _ kF kN
end
example : True ∧ True := by
  try walk1
  repeat (first | trivial | constructor)
section
-- part D3

noncomputable def atomT (t : Str) : Str := if t = Str.ofString "k" then Str.ofString "k" else Str.ofString "'$VAR'"
theorem in_tup_c {w : World} {A : Around} {E : Value → Shared → Prop} {s : Shared} {t : Addr} {items : Array Value} {ys : List Str} {x : Str} {u : Tok} {Q : Value → Shared → Prop} (b : Bool)
    (ht : IsTup s.heap t items) (hi : StrsAre items.toList ys) (hb : ys.any (· == x) = b) (h : Q (.bool b) s) : wpAny (model P0 w) A (compareOp .In (.str x u) (.ref t)) Q E s :=
  in_tuple_strs ht hi (by rw [hb]; exact h)
local macro_rules | `(tactic| walk_at "compareOp In str ref") => `(tactic| (k_here; k_dflt (first | refine in_tup_c true (News.isTup (by k_asm) (by k_mem)) (by (repeat constructor)) (by decide) ?_ | refine in_tup_c false (News.isTup (by k_asm) (by k_mem)) (by (repeat constructor)) (by decide) ?_)))
local macro_rules | `(tactic| walk_at "compareOp In str str") => `(tactic| (k_here; first | refine in_str_c true (by decide +kernel) ?_ | refine in_str_c false (by decide +kernel) ?_))
local macro_rules | `(tactic| walk_at "subscriptTail") => `(tactic| (k_here; (with_reducible show wpAny _ _ (subscriptTail _ _ (Value.ref _) (Value.int _ _)) _ _ _); k_dflt (refine item_litK (News.isList (by k_asm) (by k_mem)) (by first | decide | assumption) (by first | decide | omega) (by assumption) ?_)))
theorem unr_end {h₀ : Heap} {L I : Addr} {it : Obj} {rest : (Str → Option Value) → Led → Prop} {s₁ : Shared} {h' : Heap} {tk : Nat} {m' : Str → Option Value} {all news' : Led} (F : Fr h₀ L h' m') (N : News h₀ L h' all) (hR : Rm (I, it) all news') (off : ∀ p ∈ news', p.1 ≠ I) (r : rest m' news') :
    UnrEnd h₀ L s₁ I it rest { s₁ with heap := h', toks := tk } := UnrEnd.intro F N news' (fun p hp => hR.mem p hp) off r
local macro_rules | `(tactic| walk_at "UnrEnd") => `(tactic| (refine' unr_end ?uF ?uN ?uR ?uO ?_; (case uF => k_asm); (case uN => k_asm); (case uR => kbt_split); (case uO => k_all)))
local macro_rules | `(tactic| walk_at "exec For Name Name cons nil") => `(tactic| (k_here; (rename Fr _ _ _ _ => lF'); (with_unfolding_all refine' For_invVF lF' ?k1 ?k2 ?_; (case k1 => exact rfl); (case k2 => exact rfl); k_whole)))
local macro_rules | `(tactic| walk_at "pyIter str") => `(tactic| ((with_reducible show wpAny _ _ (pyIter (Value.str _ _)) (fun it s₂ => LoopAtV _ _ _ _ _ _ _ _ _ it s₂) _ _); k_here; k_strUnr))
section
local macro_rules | `(tactic| walk_at "compareOp LtE int int") => `(tactic| (k_here; first | refine le_no (by omega) ?_ | refine le_yes (by omega) ?_))
local macro_rules | `(tactic| walk_at "compareOp Eq int int") => `(tactic| (k_here; refine eq_no (by omega) ?_))
local macro_rules | `(tactic| walk_at "compareOp Lt int int") => `(tactic| (k_here; refine lt_no (by omega) ?_))
theorem lt_no {prog : Program} {w : World} {A : Around} {E : Value → Shared → Prop} {s : Shared} {Q : Value → Shared → Prop} {x y : Int} {t u : Tok} (h : ¬ x < y) (k : Q (.bool false) s) : wpAny (model prog w) A (compareOp .Lt (.int x t) (.int y u)) Q E s := lt_int (by rw [decide_eq_false h]; exact k)
set_option maxHeartbeats 8000000 in
theorem escaped_spec {w : World} {mean : ExcName → Option Value} {mg mb : Str → Option Value} {rest : Led} {c : Int} {tc : Tok} (h1 : 32 ≤ c) (h2 : c ≤ 126) (h3 : ¬ c = 39) (h4 : ¬ c = 92) : Does 1 w mean mg mb 298 [.int c tc] rest (fun K => ∀ tk, K (.str ⟨#[c.toNat]⟩ tk) rest) := by
  unfold Does
  intro dp un gd cn cs fa ccd cl outer A₀ base h₀ L m s Q E B F X N Tp hk hd hu hret
  refine wpAny_call ?_
  k_dflt cell_enter
  k_steps
  all_goals (rename Fr _ _ _ _ => kF; rename News _ _ _ _ => kN; exact hret _ _ _ kF kN)
end
set_option maxHeartbeats 8000000 in
theorem alname_k {w : World} {mean : ExcName → Option Value} {mg mb : Str → Option Value} {rest : Led} {tt : Tok} : Does 4 w mean mg mb 182 [.str (Str.ofString "k") tt] rest (fun K => K (.bool true) rest) := by
  unfold Does
  intro dp un gd cn cs fa ccd cl outer A₀ base h₀ L m s Q E B F X N Tp hk hd hu hret
  refine wpAny_call ?_
  k_dflt cell_enter
  k_steps
  all_goals (rename Fr _ _ _ _ => kF; rename News _ _ _ _ => kN; first | exact hret _ _ kF kN | exact hret _ _ kF (kti_tail kN))
set_option maxHeartbeats 8000000 in
theorem alname_v {w : World} {mean : ExcName → Option Value} {mg mb : Str → Option Value} {rest : Led} {tt : Tok} : Does 4 w mean mg mb 182 [.str (Str.ofString "$VAR") tt] rest (fun K => K (.bool false) rest) := by
  unfold Does
  intro dp un gd cn cs fa ccd cl outer A₀ base h₀ L m s Q E B F X N Tp hk hd hu hret
  refine wpAny_call ?_
  k_dflt cell_enter
  k_steps
  all_goals (rename Fr _ _ _ _ => kF; rename News _ _ _ _ => kN; first | exact hret _ _ kF kN | exact hret _ _ kF (kti_tail kN))
set_option maxHeartbeats 8000000 in
theorem syname_v {w : World} {mean : ExcName → Option Value} {mg mb : Str → Option Value} {rest : Led} {tt : Tok} : Does 4 w mean mg mb 189 [.str (Str.ofString "$VAR") tt] rest (fun K => K (.bool false) rest) := by
  unfold Does
  intro dp un gd cn cs fa ccd cl outer A₀ base h₀ L m s Q E B F X N Tp hk hd hu hret
  refine wpAny_call ?_
  k_dflt cell_enter
  k_steps
  all_goals (rename Fr _ _ _ _ => kF; rename News _ _ _ _ => kN; first | exact hret _ _ kF kN | exact hret _ _ kF (kti_tail kN))
set_option maxHeartbeats 8000000 in
theorem plain_k {w : World} {mean : ExcName → Option Value} {mg mb : Str → Option Value} {rest : Led} {tt : Tok} : Does 5 w mean mg mb 196 [.str (Str.ofString "k") tt] rest (fun K => K (.bool true) rest) := by
  unfold Does
  intro dp un gd cn cs fa ccd cl outer A₀ base h₀ L m s Q E B F X N Tp hk hd hu hret
  refine wpAny_call ?_
  k_dflt cell_enter
  (k_steps; (repeat' (unfold Stop; first | (k_dflt (refine' does_use ?Bx1 ?Fx1 ?Xx1 ?Nx1 ?Tx1 ?hkx1 alname_k ?pkx1 ?hdx1 ?hux1 ?_; (case Bx1 => k_asm); (case Fx1 => k_asm); (case Xx1 => k_asm); (case Nx1 => k_asm); (case Tx1 => k_asm); (case hkx1 => first | exact rfl | assumption); (case pkx1 => exact Pk.nil); (case hdx1 => ktr_room); (case hux1 => ktr_units)); intro  _ _ _ _; (try dsimp only); (try k_steps)) | (k_dflt (refine' does_use ?Bx2 ?Fx2 ?Xx2 ?Nx2 ?Tx2 ?hkx2 alname_v ?pkx2 ?hdx2 ?hux2 ?_; (case Bx2 => k_asm); (case Fx2 => k_asm); (case Xx2 => k_asm); (case Nx2 => k_asm); (case Tx2 => k_asm); (case hkx2 => first | exact rfl | assumption); (case pkx2 => exact Pk.nil); (case hdx2 => ktr_room); (case hux2 => ktr_units)); intro  _ _ _ _; (try dsimp only); (try k_steps)) | (k_dflt (refine' does_use ?Bx3 ?Fx3 ?Xx3 ?Nx3 ?Tx3 ?hkx3 syname_v ?pkx3 ?hdx3 ?hux3 ?_; (case Bx3 => k_asm); (case Fx3 => k_asm); (case Xx3 => k_asm); (case Nx3 => k_asm); (case Tx3 => k_asm); (case hkx3 => first | exact rfl | assumption); (case pkx3 => exact Pk.nil); (case hdx3 => ktr_room); (case hux3 => ktr_units)); intro  _ _ _ _; (try dsimp only); (try k_steps)))))
  all_goals (rename Fr _ _ _ _ => kF; rename News _ _ _ _ => kN; first | exact hret _ _ kF kN | exact hret _ _ kF (kti_tail kN))
set_option maxHeartbeats 8000000 in
theorem plain_v {w : World} {mean : ExcName → Option Value} {mg mb : Str → Option Value} {rest : Led} {tt : Tok} : Does 5 w mean mg mb 196 [.str (Str.ofString "$VAR") tt] rest (fun K => K (.bool false) rest) := by
  unfold Does
  intro dp un gd cn cs fa ccd cl outer A₀ base h₀ L m s Q E B F X N Tp hk hd hu hret
  refine wpAny_call ?_
  k_dflt cell_enter
  (k_steps; (repeat' (unfold Stop; first | (k_dflt (refine' does_use ?Bx4 ?Fx4 ?Xx4 ?Nx4 ?Tx4 ?hkx4 alname_k ?pkx4 ?hdx4 ?hux4 ?_; (case Bx4 => k_asm); (case Fx4 => k_asm); (case Xx4 => k_asm); (case Nx4 => k_asm); (case Tx4 => k_asm); (case hkx4 => first | exact rfl | assumption); (case pkx4 => exact Pk.nil); (case hdx4 => ktr_room); (case hux4 => ktr_units)); intro  _ _ _ _; (try dsimp only); (try k_steps)) | (k_dflt (refine' does_use ?Bx5 ?Fx5 ?Xx5 ?Nx5 ?Tx5 ?hkx5 alname_v ?pkx5 ?hdx5 ?hux5 ?_; (case Bx5 => k_asm); (case Fx5 => k_asm); (case Xx5 => k_asm); (case Nx5 => k_asm); (case Tx5 => k_asm); (case hkx5 => first | exact rfl | assumption); (case pkx5 => exact Pk.nil); (case hdx5 => ktr_room); (case hux5 => ktr_units)); intro  _ _ _ _; (try dsimp only); (try k_steps)) | (k_dflt (refine' does_use ?Bx6 ?Fx6 ?Xx6 ?Nx6 ?Tx6 ?hkx6 syname_v ?pkx6 ?hdx6 ?hux6 ?_; (case Bx6 => k_asm); (case Fx6 => k_asm); (case Xx6 => k_asm); (case Nx6 => k_asm); (case Tx6 => k_asm); (case hkx6 => first | exact rfl | assumption); (case pkx6 => exact Pk.nil); (case hdx6 => ktr_room); (case hux6 => ktr_units)); intro  _ _ _ _; (try dsimp only); (try k_steps)))))
  all_goals (rename Fr _ _ _ _ => kF; rename News _ _ _ _ => kN; first | exact hret _ _ kF kN | exact hret _ _ kF (kti_tail kN))
set_option maxHeartbeats 8000000 in
theorem quoted_spec {w : World} {mean : ExcName → Option Value} {mg mb : Str → Option Value} {rest : Led} {tt : Tok} : Does 3 w mean mg mb 305 [.str (Str.ofString "$VAR") tt] rest (fun K => ∀ tk, K (.str (Str.ofString "'$VAR'") tk) rest) := by
  unfold Does
  intro dp un gd cn cs fa ccd cl outer A₀ base h₀ L m s Q E B F X N Tp hk hd hu hret
  refine wpAny_call ?_
  k_dflt cell_enter
  (k_steps; (repeat' (unfold Stop; first | (k_dflt (refine' does_use ?Bx7 ?Fx7 ?Xx7 ?Nx7 ?Tx7 ?hkx7 alname_k ?pkx7 ?hdx7 ?hux7 ?_; (case Bx7 => k_asm); (case Fx7 => k_asm); (case Xx7 => k_asm); (case Nx7 => k_asm); (case Tx7 => k_asm); (case hkx7 => first | exact rfl | assumption); (case pkx7 => exact Pk.nil); (case hdx7 => ktr_room); (case hux7 => ktr_units)); intro  _ _ _ _; (try dsimp only); (try k_steps)) | (k_dflt (refine' does_use ?Bx8 ?Fx8 ?Xx8 ?Nx8 ?Tx8 ?hkx8 alname_v ?pkx8 ?hdx8 ?hux8 ?_; (case Bx8 => k_asm); (case Fx8 => k_asm); (case Xx8 => k_asm); (case Nx8 => k_asm); (case Tx8 => k_asm); (case hkx8 => first | exact rfl | assumption); (case pkx8 => exact Pk.nil); (case hdx8 => ktr_room); (case hux8 => ktr_units)); intro  _ _ _ _; (try dsimp only); (try k_steps)) | (k_dflt (refine' does_use ?Bx9 ?Fx9 ?Xx9 ?Nx9 ?Tx9 ?hkx9 syname_v ?pkx9 ?hdx9 ?hux9 ?_; (case Bx9 => k_asm); (case Fx9 => k_asm); (case Xx9 => k_asm); (case Nx9 => k_asm); (case Tx9 => k_asm); (case hkx9 => first | exact rfl | assumption); (case pkx9 => exact Pk.nil); (case hdx9 => ktr_room); (case hux9 => ktr_units)); intro  _ _ _ _; (try dsimp only); (try k_steps)) | (k_dflt (refine' does_use ?Bx10 ?Fx10 ?Xx10 ?Nx10 ?Tx10 ?hkx10 (escaped_spec ?a1x10 ?a2x10 ?a3x10 ?a4x10) ?pkx10 ?hdx10 ?hux10 ?_; (case Bx10 => k_asm); (case Fx10 => k_asm); (case Xx10 => k_asm); (case Nx10 => k_asm); (case Tx10 => k_asm); (case hkx10 => first | exact rfl | assumption); (case pkx10 => exact Pk.nil); (case a1x10 => decide); (case a2x10 => decide); (case a3x10 => decide); (case a4x10 => decide); (case hdx10 => ktr_room); (case hux10 => ktr_units)); intro _ _ _ _ _; (try dsimp only); (try k_steps)) | (k_dflt (refine' does_use ?Bx11 ?Fx11 ?Xx11 ?Nx11 ?Tx11 ?hkx11 plain_k ?pkx11 ?hdx11 ?hux11 ?_; (case Bx11 => k_asm); (case Fx11 => k_asm); (case Xx11 => k_asm); (case Nx11 => k_asm); (case Tx11 => k_asm); (case hkx11 => first | exact rfl | assumption); (case pkx11 => exact Pk.nil); (case hdx11 => ktr_room); (case hux11 => ktr_units)); intro  _ _ _ _; (try dsimp only); (try k_steps)) | (k_dflt (refine' does_use ?Bx12 ?Fx12 ?Xx12 ?Nx12 ?Tx12 ?hkx12 plain_v ?pkx12 ?hdx12 ?hux12 ?_; (case Bx12 => k_asm); (case Fx12 => k_asm); (case Xx12 => k_asm); (case Nx12 => k_asm); (case Tx12 => k_asm); (case hkx12 => first | exact rfl | assumption); (case pkx12 => exact Pk.nil); (case hdx12 => ktr_room); (case hux12 => ktr_units)); intro  _ _ _ _; (try dsimp only); (try k_steps)))))
  rename Fr _ _ _ _ => kF
  rename News _ _ _ _ => kN
  exact (str_eq (show Txt.join (Str.ofString "") [Str.ofString "'", ⟨#[(36 : Int).toNat]⟩, ⟨#[(86 : Int).toNat]⟩, ⟨#[(65 : Int).toNat]⟩, ⟨#[(82 : Int).toNat]⟩, Str.ofString "'"] = Str.ofString "'$VAR'" from by decide +kernel)) ▸ hret _ _ _ kF (kti_tail kN)
set_option maxHeartbeats 8000000 in
theorem atext_spec {w : World} {mean : ExcName → Option Value} {mg mb : Str → Option Value} {rest : Led} {x dx bt bn bf bg : Nat} {H : SymH} {nt : Nat} {vs : List Value} {T : List Str} {a : Int} {ta : Tok} {t : Str}
    (m1 : (x, instObj 122 dx) ∈ rest) (m2 : (dx, symDict H bt bn bf bg) ∈ rest) (m3 : (bt, listOf vs.toArray nt) ∈ rest) (hs : StrsAre vs T) (ha0 : 0 ≤ a) (ha1 : a < 100000) (hT : T[a.toNat]? = some t) (ht : t = Str.ofString "k" ∨ t = Str.ofString "$VAR") :
    Does 7 w mean mg mb 313 [.ref x, .int a ta, .bool true] rest (fun K => ∀ tk, K (.str (atomT t) tk) rest) := by
  unfold Does
  intro dp un gd cn cs fa ccd cl outer A₀ base h₀ L m s Q E B F X N Tp hk hd hu hret
  obtain ⟨tq, hq⟩ := hs.get a.toNat t hT
  rcases ht with rfl | rfl
  · rw [show atomT (Str.ofString "k") = Str.ofString "k" from by decide +kernel] at hret
    refine wpAny_call ?_
    k_dflt fold_lay
    (k_steps; (repeat' (unfold Stop; first | (k_dflt (refine' does_use ?Bx13 ?Fx13 ?Xx13 ?Nx13 ?Tx13 ?hkx13 alname_k ?pkx13 ?hdx13 ?hux13 ?_; (case Bx13 => k_asm); (case Fx13 => k_asm); (case Xx13 => k_asm); (case Nx13 => k_asm); (case Tx13 => k_asm); (case hkx13 => first | exact rfl | assumption); (case pkx13 => exact Pk.nil); (case hdx13 => ktr_room); (case hux13 => ktr_units)); intro  _ _ _ _; (try dsimp only); (try k_steps)) | (k_dflt (refine' does_use ?Bx14 ?Fx14 ?Xx14 ?Nx14 ?Tx14 ?hkx14 alname_v ?pkx14 ?hdx14 ?hux14 ?_; (case Bx14 => k_asm); (case Fx14 => k_asm); (case Xx14 => k_asm); (case Nx14 => k_asm); (case Tx14 => k_asm); (case hkx14 => first | exact rfl | assumption); (case pkx14 => exact Pk.nil); (case hdx14 => ktr_room); (case hux14 => ktr_units)); intro  _ _ _ _; (try dsimp only); (try k_steps)) | (k_dflt (refine' does_use ?Bx15 ?Fx15 ?Xx15 ?Nx15 ?Tx15 ?hkx15 syname_v ?pkx15 ?hdx15 ?hux15 ?_; (case Bx15 => k_asm); (case Fx15 => k_asm); (case Xx15 => k_asm); (case Nx15 => k_asm); (case Tx15 => k_asm); (case hkx15 => first | exact rfl | assumption); (case pkx15 => exact Pk.nil); (case hdx15 => ktr_room); (case hux15 => ktr_units)); intro  _ _ _ _; (try dsimp only); (try k_steps)) | (k_dflt (refine' does_use ?Bx16 ?Fx16 ?Xx16 ?Nx16 ?Tx16 ?hkx16 (escaped_spec ?a1x16 ?a2x16 ?a3x16 ?a4x16) ?pkx16 ?hdx16 ?hux16 ?_; (case Bx16 => k_asm); (case Fx16 => k_asm); (case Xx16 => k_asm); (case Nx16 => k_asm); (case Tx16 => k_asm); (case hkx16 => first | exact rfl | assumption); (case pkx16 => exact Pk.nil); (case a1x16 => decide); (case a2x16 => decide); (case a3x16 => decide); (case a4x16 => decide); (case hdx16 => ktr_room); (case hux16 => ktr_units)); intro _ _ _ _ _; (try dsimp only); (try k_steps)) | (k_dflt (refine' does_use ?Bx17 ?Fx17 ?Xx17 ?Nx17 ?Tx17 ?hkx17 plain_k ?pkx17 ?hdx17 ?hux17 ?_; (case Bx17 => k_asm); (case Fx17 => k_asm); (case Xx17 => k_asm); (case Nx17 => k_asm); (case Tx17 => k_asm); (case hkx17 => first | exact rfl | assumption); (case pkx17 => exact Pk.nil); (case hdx17 => ktr_room); (case hux17 => ktr_units)); intro  _ _ _ _; (try dsimp only); (try k_steps)) | (k_dflt (refine' does_use ?Bx18 ?Fx18 ?Xx18 ?Nx18 ?Tx18 ?hkx18 plain_v ?pkx18 ?hdx18 ?hux18 ?_; (case Bx18 => k_asm); (case Fx18 => k_asm); (case Xx18 => k_asm); (case Nx18 => k_asm); (case Tx18 => k_asm); (case hkx18 => first | exact rfl | assumption); (case pkx18 => exact Pk.nil); (case hdx18 => ktr_room); (case hux18 => ktr_units)); intro  _ _ _ _; (try dsimp only); (try k_steps)) | (k_dflt (refine' does_use ?Bx19 ?Fx19 ?Xx19 ?Nx19 ?Tx19 ?hkx19 quoted_spec ?pkx19 ?hdx19 ?hux19 ?_; (case Bx19 => k_asm); (case Fx19 => k_asm); (case Xx19 => k_asm); (case Nx19 => k_asm); (case Tx19 => k_asm); (case hkx19 => first | exact rfl | assumption); (case pkx19 => exact Pk.nil); (case hdx19 => ktr_room); (case hux19 => ktr_units)); intro _ _ _ _ _; (try dsimp only); (try k_steps)))))
    rename Fr _ _ _ _ => kF
    rename News _ _ _ _ => kN
    exact hret _ _ _ kF kN
  · rw [show atomT (Str.ofString "$VAR") = Str.ofString "'$VAR'" from by decide +kernel] at hret
    refine wpAny_call ?_
    k_dflt fold_lay
    (k_steps; (repeat' (unfold Stop; first | (k_dflt (refine' does_use ?Bx20 ?Fx20 ?Xx20 ?Nx20 ?Tx20 ?hkx20 alname_k ?pkx20 ?hdx20 ?hux20 ?_; (case Bx20 => k_asm); (case Fx20 => k_asm); (case Xx20 => k_asm); (case Nx20 => k_asm); (case Tx20 => k_asm); (case hkx20 => first | exact rfl | assumption); (case pkx20 => exact Pk.nil); (case hdx20 => ktr_room); (case hux20 => ktr_units)); intro  _ _ _ _; (try dsimp only); (try k_steps)) | (k_dflt (refine' does_use ?Bx21 ?Fx21 ?Xx21 ?Nx21 ?Tx21 ?hkx21 alname_v ?pkx21 ?hdx21 ?hux21 ?_; (case Bx21 => k_asm); (case Fx21 => k_asm); (case Xx21 => k_asm); (case Nx21 => k_asm); (case Tx21 => k_asm); (case hkx21 => first | exact rfl | assumption); (case pkx21 => exact Pk.nil); (case hdx21 => ktr_room); (case hux21 => ktr_units)); intro  _ _ _ _; (try dsimp only); (try k_steps)) | (k_dflt (refine' does_use ?Bx22 ?Fx22 ?Xx22 ?Nx22 ?Tx22 ?hkx22 syname_v ?pkx22 ?hdx22 ?hux22 ?_; (case Bx22 => k_asm); (case Fx22 => k_asm); (case Xx22 => k_asm); (case Nx22 => k_asm); (case Tx22 => k_asm); (case hkx22 => first | exact rfl | assumption); (case pkx22 => exact Pk.nil); (case hdx22 => ktr_room); (case hux22 => ktr_units)); intro  _ _ _ _; (try dsimp only); (try k_steps)) | (k_dflt (refine' does_use ?Bx23 ?Fx23 ?Xx23 ?Nx23 ?Tx23 ?hkx23 (escaped_spec ?a1x23 ?a2x23 ?a3x23 ?a4x23) ?pkx23 ?hdx23 ?hux23 ?_; (case Bx23 => k_asm); (case Fx23 => k_asm); (case Xx23 => k_asm); (case Nx23 => k_asm); (case Tx23 => k_asm); (case hkx23 => first | exact rfl | assumption); (case pkx23 => exact Pk.nil); (case a1x23 => decide); (case a2x23 => decide); (case a3x23 => decide); (case a4x23 => decide); (case hdx23 => ktr_room); (case hux23 => ktr_units)); intro _ _ _ _ _; (try dsimp only); (try k_steps)) | (k_dflt (refine' does_use ?Bx24 ?Fx24 ?Xx24 ?Nx24 ?Tx24 ?hkx24 plain_k ?pkx24 ?hdx24 ?hux24 ?_; (case Bx24 => k_asm); (case Fx24 => k_asm); (case Xx24 => k_asm); (case Nx24 => k_asm); (case Tx24 => k_asm); (case hkx24 => first | exact rfl | assumption); (case pkx24 => exact Pk.nil); (case hdx24 => ktr_room); (case hux24 => ktr_units)); intro  _ _ _ _; (try dsimp only); (try k_steps)) | (k_dflt (refine' does_use ?Bx25 ?Fx25 ?Xx25 ?Nx25 ?Tx25 ?hkx25 plain_v ?pkx25 ?hdx25 ?hux25 ?_; (case Bx25 => k_asm); (case Fx25 => k_asm); (case Xx25 => k_asm); (case Nx25 => k_asm); (case Tx25 => k_asm); (case hkx25 => first | exact rfl | assumption); (case pkx25 => exact Pk.nil); (case hdx25 => ktr_room); (case hux25 => ktr_units)); intro  _ _ _ _; (try dsimp only); (try k_steps)) | (k_dflt (refine' does_use ?Bx26 ?Fx26 ?Xx26 ?Nx26 ?Tx26 ?hkx26 quoted_spec ?pkx26 ?hdx26 ?hux26 ?_; (case Bx26 => k_asm); (case Fx26 => k_asm); (case Xx26 => k_asm); (case Nx26 => k_asm); (case Tx26 => k_asm); (case hkx26 => first | exact rfl | assumption); (case pkx26 => exact Pk.nil); (case hdx26 => ktr_room); (case hux26 => ktr_units)); intro _ _ _ _ _; (try dsimp only); (try k_steps)))))
    rename Fr _ _ _ _ => kF
    rename News _ _ _ _ => kN
    exact hret _ _ _ kF kN
end
example : True ∧ True := by
  try walk1
  repeat (first | trivial | constructor)
section
-- part E0
theorem plain_contains_iter : plainId "proto.contains_iter" = true := by decide +kernel
theorem entry_contains_iter : entryFor table "proto.contains_iter" = some Builtin.«proto.contains_iter» := entryFor_of_fast (by kernel_rfl)
theorem values_no_contains : typeLookup (.type "dict_values") "__contains__" = pure none := by rw [typeLookup_type, builtinLookup_eq_fast]; kernel_rfl
section
variable {prog : Program} {w : World} {A : Around} {E : Value → Shared → Prop} {s : Shared} {I d v : Addr} {K : Type} [DecidableEq K] {knd : KeyKind prog w K}
theorem contains_iter_vals {kvs : List (K × Value)} {ys : List Str} {ep : Nat} (hh : A.in1.handled = none) (hne : d ≠ I) (hy : StrsAre (kvs.map (·.2)) ys) (x : Str) (t : Tok) :
    ∀ (k i : Nat) (s : Shared) (R : Result → Shared → Prop), kvs.length - i = k → i ≤ kvs.length → s.heap.IsValIter I d i kvs.length ep → s.heap.DictAt knd d kvs ep →
      (∀ h' tk, (∀ b o, b ∉ [I] → s.heap.get? b = some o → h'.get? b = some o) → R (.ok (.ret (.bool ((ys.drop i).any (· == x))))) { s with heap := h', toks := tk }) →
      codeAny (model prog w) A (.builtin "proto.contains_iter" ⟨[.ref I, .str x t], []⟩) R s := by
  have W := Walks.dictValues (prog := prog) (w := w) (knd := knd) (A := A.in1) hh I d hne kvs ep
  have hyl : ys.length = kvs.length := by rw [← hy.length]; simp
  intro k
  induction k with
  | zero =>
    intro i s R hk hi h1 h2 hR
    have hin : i = kvs.length := by omega
    subst hin
    refine codeAny_builtin entry_contains_iter ?_
    rw [Around.under_plainId plain_contains_iter _]
    show wpAny _ A.in1 (pyNext (.ref I) >>= _) _ _ s
    refine wpAny_bind (W.done s _ _ ⟨h1, h2⟩ fun h' tk hm => ?_)
    refine wpAny_bind (wpAny_rule ?_)
    refine wpAny_pure ?_
    have e := hR h' tk hm
    rw [List.drop_eq_nil_of_le (by omega)] at e
    exact e
  | succ k ih =>
    intro i s R hk hi h1 h2 hR
    have hlt : i < kvs.length := by omega
    refine codeAny_builtin entry_contains_iter ?_
    rw [Around.under_plainId plain_contains_iter _]
    show wpAny _ A.in1 (pyNext (.ref I) >>= _) _ _ s
    refine wpAny_bind (W.item i s _ _ hlt ⟨h1, h2⟩ fun v h' tk hP hst' hm => ?_)
    obtain ⟨kk, hkv⟩ := hP
    have hlt2 : i < ys.length := by omega
    obtain ⟨tq, hq⟩ := hy.get i ys[i] (List.getElem?_eq_getElem hlt2)
    have hv : v = .str ys[i] tq := by
      rw [List.getElem?_map, hkv] at hq
      simpa using hq
    subst hv
    show wpAny _ A.in1 (eqBool (.str ys[i] tq) (.str x t) >>= _) _ _ _
    refine wpAny_bind (eqBool_str ?_)
    have hdrop : ys.drop i = ys[i] :: ys.drop (i + 1) := List.drop_eq_getElem_cons hlt2
    cases hb : (ys[i] == x) with
    | true =>
      refine wpAny_bind (wpAny_rule ?_)
      refine wpAny_pure ?_
      have e := hR h' tk hm
      rw [hdrop, List.any_cons, hb] at e
      exact e
    | false =>
      refine wpAny_pure ⟨plainId_quiet plain_contains_iter _, ih (i + 1) _ _ (by omega) hlt hst'.1 hst'.2 fun h'' tk' hm' => ?_⟩
      have e := hR h'' tk' fun b o hb eo => hm' b o hb (hm b o hb eo)
      rw [hdrop, List.any_cons, hb] at e
      exact e
/-- x in d.values(), told over a ledger -/
theorem in_values {h₀ : Heap} {L : Addr} {m : Str → Option Value} {news : Led} {kvs : List (K × Value)} {ys : List Str} {o : Obj} {x : Str} {t : Tok} {Q : Value → Shared → Prop} (hh : A.in1.handled = none)
    (F : Fr h₀ L s.heap m) (N : News h₀ L s.heap news) (hv : (v, ({ cls := .type "dict_values", data := .fields #[.ref d] } : Obj)) ∈ news) (hd : (d, o) ∈ news) (ho : o.IsDictOf knd kvs) (hy : StrsAre (kvs.map (·.2)) ys)
    (hQ : ∀ h' tk, Fr h₀ L h' m → News h₀ L h' news → Q (.bool (ys.any (· == x))) { s with heap := h', toks := tk }) :
    wpAny (model prog w) A (compareOp .In (.str x t) (.ref v)) Q E s := by
  have hvv : s.heap.IsValuesView v d := ⟨_, (N _ hv).1, rfl, rfl⟩
  obtain ⟨es, ep, hc, hdat, hk0, hp, hn⟩ := ho
  have hat : s.heap.DictAt knd d kvs ep := ⟨o, es, (N _ hd).1, hc, hdat, hk0, hp, hn⟩
  have hne : d ≠ s.heap.objs.size := Nat.ne_of_lt hat.lt_size
  show wpAny _ _ (contains (.ref v) (.str x t) >>= _) Q E s
  refine wpAny_bind ?_
  unfold contains
  refine wpAny_holding ?_
  rw [stdlibNamesSay?_of_typeIs hvv.typeIs]
  refine wpAny_bind (wpAny_specialOf hvv.typeIs values_no_contains ?_)
  refine wpAny_bind (wpAny_callSpecialUnlessNone?_none (name := Str.ofString "__contains__") hvv.typeIs values_no_contains ?_)
  refine wpAny_bind (wpAny_rule ?_)
  refine wpAny_bind (wpAny_tryCatch (wpAny_pyIter_values hvv hat ?_))
  refine wpAny_bind (wpAny_runValue (contains_iter_vals (knd := knd) hh hne hy x t kvs.length 0 _ _ rfl (Nat.zero_le _) ⟨_, Heap.get?_push_size _ rfl, rfl, rfl⟩ (hat.push _) fun h' tk hm => ?_))
  refine wpAny_pure ?_
  refine wpAny_pure ?_
  have hk : ∀ b o, s.heap.get? b = some o → h'.get? b = some o := fun b o e =>
    hm b o (fun hb => absurd (Heap.lt_size e) (by rw [List.mem_singleton.mp hb]; exact Nat.lt_irrefl _)) (Heap.get?_push_of_some _ e)
  exact hQ h' tk ⟨F.ns.at fun o e => hk L o e, fun b o e => hk b o (F.keep b o e), F.above⟩ fun p hp => ⟨hk _ _ (N p hp).1, (N p hp).2⟩
end
/-- a while told over ledgers, by a measure -/
noncomputable def WhlEnd (s₀ : Shared) (h₀ : Heap) (L : Addr) (R : (Str → Option Value) → Led → Prop) (s' : Shared) : Prop := ∃ h' tk' m' nx', s' = { s₀ with heap := h', toks := tk' } ∧ Fr h₀ L h' m' ∧ News h₀ L h' nx' ∧ R m' nx'
noncomputable def WhlP (s₀ : Shared) (h₀ : Heap) (L : Addr) (R : (Str → Option Value) → Led → Prop) (Q : Flow → Shared → Prop) (f : Flow) (s : Shared) : Prop :=
  match f with
  | .next => WhlEnd s₀ h₀ L R s
  | .cont => WhlEnd s₀ h₀ L R s
  | .brk => Q .next s
  | .ret v => Q (.ret v) s
inductive Less (J : Nat → (Str → Option Value) → Led → Prop) (n : Nat) (m : Str → Option Value) (nx : Led) : Prop
  | mk (n' : Nat) : n' < n → J n' m nx → Less J n m nx
noncomputable def WhlGo (prog : Program) (w : World) (A : Around) (E : Value → Shared → Prop) (env : Env) (test : PySem.Expr) (body orelse : List Stmt) (Q : Flow → Shared → Prop) (s : Shared) : Prop := WhlRest prog w A E env test body orelse Q 0 s
section
variable {prog : Program} {w : World} {A : Around} {E : Value → Shared → Prop} {s : Shared} {env : Env} {test : PySem.Expr} {body orelse : List Stmt} {Q : Flow → Shared → Prop} {h₀ : Heap}
theorem whl_go {pos : Pos} (h : WhlGo prog w A E env test body orelse Q s) : wpAny (model prog w) A (exec (.While test body orelse pos) env) Q E s := whl_start 0 h
theorem whl_rule (J : Nat → (Str → Option Value) → Led → Prop) (hE : PassesOwn (model prog w) A env E)
    (turn : ∀ n m nx h tk, J n m nx → Fr h₀ env.locals h m → News h₀ env.locals h nx →
      wpAny (model prog w) A (isTrue test env (eval test env)) (fun b s₂ => WhlIf b (wpAny (model prog w) A (execs body env) (WhlP s h₀ env.locals (Less J n) Q) E s₂) (wpAny (model prog w) A (execs orelse env) Q E s₂)) E { s with heap := h, toks := tk }) :
    ∀ n m nx h tk, J n m nx → Fr h₀ env.locals h m → News h₀ env.locals h nx → WhlGo prog w A E env test body orelse Q { s with heap := h, toks := tk } := by
  intro n
  induction n using Nat.strongRecOn with
  | _ n ih =>
    intro m nx h tk hJ F N
    have pf : ∀ s', WhlEnd s h₀ env.locals (Less J n) s' → WhlRest prog w A E env test body orelse Q 0 s' := by
      rintro s' ⟨h', tk', m', nx', rfl, F', N', ⟨n', hn, hJ'⟩⟩
      exact ih n' hn m' nx' h' tk' hJ' F' N'
    refine whl_turn (k := 0) hE (wpAny_mono (turn n m nx h tk hJ F N) (fun b s₂ hb => ?_) fun _ _ x => x)
    unfold WhlIf at *
    split
    · rename_i e
      rw [if_pos e] at hb
      refine wpAny_mono hb (fun f s₃ p => ?_) fun _ _ x => x
      cases f with
      | next => exact pf _ p
      | cont => exact pf _ p
      | brk => exact p
      | ret v => exact p
    · rename_i e
      rw [if_neg e] at hb
      exact hb
theorem whl_use {m : Str → Option Value} {nx : Led} (J : Nat → (Str → Option Value) → Led → Prop) (n : Nat) (nx' : Led) (F : Fr h₀ env.locals s.heap m) (N : News h₀ env.locals s.heap nx) (hE : PassesOwn (model prog w) A env E)
    (sub : ∀ p ∈ nx', p ∈ nx) (st : J n m nx')
    (turn : ∀ n m nx h tk, J n m nx → Fr h₀ env.locals h m → News h₀ env.locals h nx →
      wpAny (model prog w) A (isTrue test env (eval test env)) (fun b s₂ => WhlIf b (wpAny (model prog w) A (execs body env) (WhlP s h₀ env.locals (Less J n) Q) E s₂) (wpAny (model prog w) A (execs orelse env) Q E s₂)) E { s with heap := h, toks := tk }) : WhlGo prog w A E env test body orelse Q s :=
  whl_rule J hE turn n m nx' s.heap s.toks st F fun p hp => N p (sub p hp)
theorem whl_stop {L : Addr} {R : (Str → Option Value) → Led → Prop} {s₁ : Shared} {h' : Heap} {tk : Nat} {m' : Str → Option Value} {all : Led} (nx : Led) (F : Fr h₀ L h' m') (N : News h₀ L h' all) (sub : ∀ p ∈ nx, p ∈ all) (r : R m' nx) :
    WhlEnd s₁ h₀ L R { s₁ with heap := h', toks := tk } := ⟨h', tk, m', nx, rfl, F, fun p hp => N p (sub p hp), r⟩
end
end
example : True ∧ True := by
  try walk1
  repeat (first | trivial | constructor)
section
-- part E1

theorem str_eqv {a b : Str} {t : Tok} (h : a = b) : Value.str a t = Value.str b t := by rw [h]
/-- a table of names -/
noncomputable abbrev Tbl := List (Int × Str)
noncomputable def Tables : List Tbl := [[], [(1, Str.ofString "_0")], [(0, Str.ofString "X"), (2, Str.ofString "_1")], [(1, Str.ofString "_0"), (2, Str.ofString "_0_")], [(3, Str.ofString "_0__"), (1, Str.ofString "_0"), (2, Str.ofString "_0_")]]
noncomputable def tblD (c : Tbl) : List (PyData × PyData) := c.map fun p => (PyData.int p.1, PyData.str p.2)
noncomputable def look (c : Tbl) (k : Int) : Option Str := (c.find? fun p => decide (p.1 = k)).map (·.2)
noncomputable def vals (c : Tbl) : List Str := c.map (·.2)
noncomputable def takD (ys : List Str) : List (PyData × PyData) := ys.map fun y => (PyData.str y, PyData.bool true)
theorem tblD_lookup (k : Int) : ∀ c : Tbl, PySem.Spec.lookup (PyData.int k) (tblD c) = (look c k).map PyData.str
  | [] => rfl
  | (i, v) :: c => by
    show (if PySem.Spec.same (PyData.int i) (PyData.int k) = true then some (PyData.str v) else PySem.Spec.lookup (PyData.int k) (tblD c)) = _
    rw [PyProof.V.same_int, tblD_lookup k c]
    unfold look
    rw [List.find?_cons]
    by_cases h : i = k
    · simp [h]
    · simp [h]
theorem takD_some (t : Str) : ∀ ys : List Str, (PySem.Spec.lookup (PyData.str t) (takD ys)).isSome = ys.any (· == t)
  | [] => rfl
  | y :: ys => by
    show (if PySem.Spec.same (PyData.str y) (PyData.str t) = true then some (PyData.bool true) else PySem.Spec.lookup (PyData.str t) (takD ys)).isSome = (y == t || ys.any (· == t))
    rw [PyProof.V.same_str]
    by_cases h : y = t
    · simp [h]
    · rw [if_neg (by simp [h]), takD_some t ys]
      have h2 : (y == t) = false := by simp [h]
      rw [h2, Bool.false_or]
/-- the text with as many marks as it needs -/
noncomputable def grow (ys : List Str) : Nat → Str → Str
  | 0, t => t
  | n + 1, t => if ys.any (· == t) = true then grow ys n (t ++ Str.ofString "_") else t
noncomputable def uk (k : Int) : Str := Str.ofString "_" ++ Str.ofString (toString k)
noncomputable def nameT (c : Tbl) (k : Int) : Str := match look c k with | some t => t | none => grow (vals c) 4 (uk k)
noncomputable def Short (ys : List Str) : Prop := ∀ y ∈ ys, y.length ≤ 4
theorem short_any {ys : List Str} {t : Str} (h : Short ys) (ht : 5 ≤ t.length) : ys.any (· == t) = false := by
  rw [List.any_eq_false]
  intro y hy e
  have e' : y = t := by simpa using e
  have := h y hy
  rw [e'] at this
  omega
theorem tables_short {c : Tbl} (h : c ∈ Tables) : Short (vals c) := by
  unfold Tables at h
  simp only [List.mem_cons, List.not_mem_nil, or_false] at h
  unfold Short
  rcases h with rfl | rfl | rfl | rfl | rfl <;> decide +kernel
theorem uk_len {k : Int} (h0 : 0 ≤ k) (h1 : k < 4) : (uk k).length = 2 := by
  have : k = 0 ∨ k = 1 ∨ k = 2 ∨ k = 3 := by omega
  rcases this with rfl | rfl | rfl | rfl <;> decide +kernel
theorem grow_stop {ys : List Str} {t : Str} (h : ys.any (· == t) = false) : ∀ n, grow ys n t = t
  | 0 => rfl
  | n + 1 => by rw [grow, if_neg (by rw [h]; exact Bool.false_ne_true)]
theorem grow_step {ys : List Str} {t : Str} {n : Nat} (hs : Short ys) (h : ys.any (· == t) = true) (hl : 5 ≤ t.length + n) : 0 < n ∧ grow ys n t = grow ys (n - 1) (t ++ Str.ofString "_") := by
  cases n with
  | zero => exact absurd (short_any hs (by omega)) (by rw [h]; exact fun x => Bool.false_ne_true x.symm)
  | succ n => exact ⟨by omega, by rw [grow, if_pos h]; rfl⟩
section
variable {prog : Program} {w : World} {A : Around} {E : Value → Shared → Prop} {s : Shared} {d : Addr} {h₀ : Heap} {L : Addr} {news : Led}
theorem in_tbl {c : Tbl} {k : Int} {tk : Tok} {Q : Value → Shared → Prop} (T : TabAt (PySem.intKind prog w) PyData.int s.heap d (tblD c))
    (h1 : ∀ t, look c k = some t → Q (.bool true) { s with toks := s.toks + 1 }) (h2 : look c k = none → Q (.bool false) { s with toks := s.toks + 1 }) :
    wpAny (model prog w) A (compareOp .In (.int k tk) (.ref d)) Q E s := by
  refine in_intTab T ?_
  rw [tblD_lookup]
  cases h : look c k with
  | none => exact h2 h
  | some t => exact h1 t h
theorem item_tbl {c : Tbl} {k : Int} {tk : Tok} {t : Str} {value slice : PySem.Expr} {Q : Value → Shared → Prop} (T : TabAt (PySem.intKind prog w) PyData.int s.heap d (tblD c)) (hl : look c k = some t)
    (h : ∀ u, Q (.str t u) { s with toks := s.toks + 1 })
    (hs : subscripted slice false (.ref d) (.int k tk) = operate [.ref d, .int k tk] (getItem (.ref d) (.int k tk)) := by with_unfolding_all rfl) (hg : ∀ r, letTemporaryGo value (.ref d) r = pure () := by intro _; with_unfolding_all rfl) :
    wpAny (model prog w) A (subscriptTail value slice (.ref d) (.int k tk)) Q E s :=
  item_intTab T (by rw [tblD_lookup, hl]; rfl) (fun v hv => by
    obtain ⟨u, rfl⟩ := PyProof.V.Flat.str_inv hv
    exact h u) hs hg
theorem get_tbl {c : Tbl} {k : Int} {tk : Tok} {t : Str} {Q : Value → Shared → Prop} (T : TabAt (PySem.intKind prog w) PyData.int s.heap d (tblD c)) (hl : look c k = some t)
    (h : ∀ u, Q (.str t u) { s with toks := s.toks + 1 }) : wpAny (model prog w) A (getItem (.ref d) (.int k tk)) Q E s :=
  getItem_tab PyProof.V.same_int (intKind_is _ _ _ _) T (by rw [tblD_lookup, hl]; rfl) fun v hv => by
    obtain ⟨u, rfl⟩ := PyProof.V.Flat.str_inv hv
    exact h u
theorem in_tak {ys : List Str} {t : Str} {tk : Tok} {Q : Value → Shared → Prop} (T : TabAt (PySem.strKind prog w) PyData.str s.heap d (takD ys))
    (h1 : ys.any (· == t) = true → Q (.bool true) { s with toks := s.toks + 1 }) (h2 : ys.any (· == t) = false → Q (.bool false) { s with toks := s.toks + 1 }) :
    wpAny (model prog w) A (compareOp .In (.str t tk) (.ref d)) Q E s := by
  refine in_strTab T ?_
  rw [takD_some]
  cases h : ys.any (· == t) with
  | true => exact h1 h
  | false => exact h2 h
theorem str_small {k : Int} {tk : Tok} {Q : Value → Shared → Prop} (h0 : 0 ≤ k) (h1 : k < 4) (h : ∀ t k', Q (.str (Str.ofString (toString k)) t) { s with toks := k' }) : wpAny (model prog w) A (call (.type "str") [.int k tk]) Q E s := by
  refine P.str_of_int ?_ (h _ _)
  have : k = 0 ∨ k = 1 ∨ k = 2 ∨ k = 3 := by omega
  rcases this with rfl | rfl | rfl | rfl <;> decide +kernel
theorem len_small {k : Int} (h0 : 0 ≤ k) (h1 : k < 4) : (Str.ofString (toString k)).length = 1 := by
  have : k = 0 ∨ k = 1 ∨ k = 2 ∨ k = 3 := by omega
  rcases this with rfl | rfl | rfl | rfl <;> decide +kernel
end
end
example : True ∧ True := by
  try walk1
  repeat (first | trivial | constructor)
section
-- part E2

local macro_rules | `(tactic| walk_at "compareOp In int ref") => `(tactic| (k_here; k_dflt (refine in_tbl (TabAt.ofNews (by k_asm) (by k_mem) (by k_asm) (by k_asm) (by k_asm)) (fun t9 l9 => ?_) (fun l9 => ?_))))
local macro_rules | `(tactic| walk_at "compareOp In str ref") => `(tactic| (k_here; k_dflt (refine in_tak (TabAt.ofNews (by k_asm) (by k_mem) (by k_asm) (by k_asm) (by k_asm)) (fun l9 => ?_) (fun l9 => ?_))))
local macro_rules | `(tactic| walk_at "subscriptTail") => `(tactic| (k_here; (with_reducible show wpAny _ _ (subscriptTail _ _ (Value.ref _) (Value.int _ _)) _ _ _); k_dflt (refine item_tbl (TabAt.ofNews (by k_asm) (by k_mem) (by k_asm) (by k_asm) (by k_asm)) (by assumption) ?_); intro u9))
local macro_rules | `(tactic| walk_at "getItem ref int") => `(tactic| (k_here; k_dflt (refine get_tbl (TabAt.ofNews (by k_asm) (by k_mem) (by k_asm) (by k_asm) (by k_asm)) (by assumption) ?_); intro u9))
local macro_rules | `(tactic| walk_at "call type:str") => `(tactic| (k_here; (with_reducible show wpAny _ _ (call (Value.type "str") [Value.int _ _]) _ _ _); (refine str_small (by assumption) (by assumption) ?_); intro t9 k9))
local macro_rules | `(tactic| walk_at "exec While") => `(tactic| (k_here; refine whl_go ?_))
local macro_rules | `(tactic| walk_at "exec While Compare") => `(tactic| (k_here; refine whl_go ?_))
local macro_rules | `(tactic| walk_at "exec While Compare cons nil") => `(tactic| (k_here; refine whl_go ?_))
local macro_rules | `(tactic| walk_at "WhlP") => `(tactic| (dsimp only [WhlP]))
inductive VarJ (x : Nat) (c : Tbl) (k : Int) (rest : Led) (n : Nat) (m : Str → Option Value) (nx : Led) : Prop
  | mk (t : Str) (tt : Tok) : Has m [(Str.ofString "self", .ref x), (Str.ofString "text", .str t tt)] → 5 ≤ t.length + n → grow (vals c) n t = nameT c k → t.length ≤ 20 → nx = rest → VarJ x c k rest n m nx
theorem one_mark : (Str.ofString "_").length = 1 := by decide +kernel
set_option maxHeartbeats 4000000 in
theorem var_spec {w : World} {mean : ExcName → Option Value} {mg mb : Str → Option Value} {rest : Led} {x dx xs xo an at' lo lw : Nat} {nb : Bool} {H : WrH} {la : Str} {ta : Tok} {c : Tbl} {on ot : Obj} {kn : List (Int × Value)} {kt : List (Str × Value)} {k : Int} {tk : Tok}
    (m1 : (x, instObj 472 dx) ∈ rest) (m2 : (dx, wrDict H nb xs xo an at' lo lw la ta) ∈ rest) (m3 : (an, on) ∈ rest) (m4 : (at', ot) ∈ rest) (hs : Short (vals c)) (hdn : on.IsDictOf (PySem.intKind P0 w) kn) (hfn : FlatPairs PyData.int kn (tblD c)) (hln : (an == sysModules) = false) (hdt : ot.IsDictOf (PySem.strKind P0 w) kt) (hft : FlatPairs PyData.str kt (takD (vals c))) (hlt : (at' == sysModules) = false) (hk0 : 0 ≤ k) (hk3 : k < 4)
    :
    Does 3 w mean mg mb 399 [.ref x, .int k tk] rest (fun K => ∀ tk', K (.str (nameT c k) tk') rest) := by
  unfold Does
  intro dp un gd cn cs fa ccd cl outer A₀ base h₀ L m s Q E B F X N Tp hk hd hu hret
  have hlen := len_small hk0 hk3
  refine wpAny_call ?_
  k_dflt cell_enter
  k_steps
  · rename look c k = some _ => l9
    rename Fr _ _ _ _ => kF
    rename News _ _ _ _ => kN
    exact (str_eqv (by unfold nameT; rw [l9]) : Value.str _ _ = Value.str (nameT c k) _) ▸ hret _ _ _ kF kN
  · rename look c k = none => hnone
    rename Fr _ _ _ _ => lF
    rename News _ _ _ _ => lN
    refine whl_use (VarJ x c k rest) 4 _ lF lN (by first | passes_own | with_unfolding_all passes_own) sub3 (.mk _ _ ⟨rfl, rfl, trivial⟩ ?a ?b ?c rfl) ?turn
    case a => rw [Str.length_append, hlen]; decide +kernel
    case b => unfold nameT; rw [hnone]; rfl
    case c => rw [Str.length_append, hlen]; decide +kernel
    case turn =>
      intro n m nx h tk hJ F N
      obtain ⟨t, tt, hm, hg1, hg2, hg3, hnx⟩ := hJ
      rw [mlocs_form hm] at F
      subst hnx
      k_steps
      · rename (vals c).any _ = true => hany
        rename Fr _ _ _ _ => lF
        rename News _ _ _ _ => lN
        obtain ⟨hn, hgs⟩ := grow_step hs hany hg1
        refine whl_stop _ lF lN sub3 (.mk (n - 1) (Nat.sub_lt hn Nat.one_pos) (.mk _ _ ⟨rfl, rfl, trivial⟩ ?_ (hgs ▸ hg2) ?_ rfl))
        · rw [Str.length_append, one_mark]; omega
        · by_cases h5 : 5 ≤ t.length
          · rw [short_any hs h5] at hany; cases hany
          · rw [Str.length_append, one_mark]; omega
      · rename (vals c).any _ = false => hany
        rename Fr _ _ _ _ => kF
        rename News _ _ _ _ => kN
        exact (str_eqv (by rw [← hg2, grow_stop hany]) : Value.str _ _ = Value.str (nameT c k) _) ▸ hret _ _ _ kF kN
end
example : True ∧ True := by
  try walk1
  repeat (first | trivial | constructor)
section
-- part E3

/-- the terms that the law builds -/
inductive Term where
  | v (k : Int)
  | i (f : Int)
  | a (n : Int)
  | fn (arg : Term)
inductive TermIs (led : Led) : Value → Term → Prop
  | v {a : Addr} {k : Int} {t u : Tok} : (a, tupO [.str (Str.ofString "v") t, .int k u]) ∈ led → TermIs led (.ref a) (.v k)
  | i {a : Addr} {k : Int} {t u : Tok} : (a, tupO [.str (Str.ofString "i") t, .int k u]) ∈ led → TermIs led (.ref a) (.i k)
  | a {a : Addr} {k : Int} {t u : Tok} : (a, tupO [.str (Str.ofString "a") t, .int k u]) ∈ led → TermIs led (.ref a) (.a k)
  | fn {a b : Addr} {x : Value} {T : Term} {t u : Tok} : (a, tupO [.str (Str.ofString "s") t, .int 17 u, .ref b]) ∈ led → (b, tupO [x]) ∈ led → TermIs led x T → TermIs led (.ref a) (.fn T)
theorem TermIs.mono {led led' : Led} {v : Value} {T : Term} (h : TermIs led v T) (hs : ∀ p ∈ led, p ∈ led') : TermIs led' v T := by
  induction h with
  | v h => exact .v (hs _ h)
  | i h => exact .i (hs _ h)
  | a h => exact .a (hs _ h)
  | fn h1 h2 _ ih => exact .fn (hs _ h1) (hs _ h2) ih
inductive TermsAre (led : Led) : List Value → List Term → Prop
  | nil : TermsAre led [] []
  | cons {v : Value} {T : Term} {vs : List Value} {Ts : List Term} : TermIs led v T → TermsAre led vs Ts → TermsAre led (v :: vs) (T :: Ts)
theorem TermsAre.mono {led led' : Led} {vs : List Value} {Ts : List Term} (h : TermsAre led vs Ts) (hs : ∀ p ∈ led, p ∈ led') : TermsAre led' vs Ts := by
  induction h with
  | nil => exact .nil
  | cons h _ ih => exact .cons (h.mono hs) ih
theorem TermsAre.snoc {led : Led} {vs : List Value} {Ts : List Term} {v : Value} {T : Term} (h : TermsAre led vs Ts) (h2 : TermIs led v T) : TermsAre led (vs ++ [v]) (Ts ++ [T]) := by
  induction h with
  | nil => exact .cons h2 .nil
  | cons h _ ih => exact .cons h ih
theorem TermsAre.length {led : Led} {vs : List Value} {Ts : List Term} (h : TermsAre led vs Ts) : vs.length = Ts.length := by
  induction h with
  | nil => rfl
  | cons _ _ ih => simp [ih]
/-- the list term -/
inductive ChainIs (led : Led) : Value → List Term → Prop
  | nil {a : Addr} {t u : Tok} : (a, tupO [.str (Str.ofString "a") t, .int 0 u]) ∈ led → ChainIs led (.ref a) []
  | cons {a b : Addr} {x y : Value} {T : Term} {Ts : List Term} {t u : Tok} : (a, tupO [.str (Str.ofString "s") t, .int 0 u, .ref b]) ∈ led → (b, tupO [x, y]) ∈ led → TermIs led x T → ChainIs led y Ts → ChainIs led (.ref a) (T :: Ts)
theorem ChainIs.mono {led led' : Led} {v : Value} {Ts : List Term} (h : ChainIs led v Ts) (hs : ∀ p ∈ led, p ∈ led') : ChainIs led' v Ts := by
  induction h with
  | nil h => exact .nil (hs _ h)
  | cons h1 h2 h3 _ ih => exact .cons (hs _ h1) (hs _ h2) (h3.mono hs) ih
local macro_rules | `(tactic| walk_at "exec While") => `(tactic| (k_here; refine whl_go ?_))
local macro_rules | `(tactic| walk_at "exec While BoolOp") => `(tactic| (k_here; refine whl_go ?_))
local macro_rules | `(tactic| walk_at "exec While BoolOp cons cons nil") => `(tactic| (k_here; refine whl_go ?_))
local macro_rules | `(tactic| walk_at "WhlP") => `(tactic| (dsimp only [WhlP]))
inductive ItemsJ (r0 rest : Led) (l : Nat) (Ts : List Term) (n : Nat) (m : Str → Option Value) (nx : Led) : Prop
  | mk (a : Value) (done todo : List Term) (vs : List Value) (cnt : Nat) : Has m [(Str.ofString "term", a), (Str.ofString "items", .ref l)] → ChainIs r0 a todo → TermsAre r0 vs done → done ++ todo = Ts → n = todo.length → nx = (l, listOf vs.toArray cnt) :: rest → ItemsJ r0 rest l Ts n m nx
set_option maxHeartbeats 4000000 in
theorem items_spec {w : World} {mean : ExcName → Option Value} {mg mb : Str → Option Value} {rest r0 : Led} {v : Addr} {Ts : List Term}
    (hc : ChainIs r0 (.ref v) Ts) (hsub : ∀ p ∈ r0, p ∈ rest) (hn : Ts.length ≤ 100) :
    Does 3 w mean mg mb 133 [.ref v] rest
      (fun K => ∀ (a b c : Addr) (vs : List Value) (n : Nat) (t u : Tok), TermsAre r0 vs Ts → (c, tupO [.str (Str.ofString "a") t, .int 0 u]) ∈ r0 → AllLt b rest → AllLt a ((b, listOf vs.toArray n) :: rest) → K (.ref a) ((a, tupO [.ref b, .ref c]) :: (b, listOf vs.toArray n) :: rest)) := by
  unfold Does
  intro dp un gd cn cs fa ccd cl outer A₀ base h₀ L m s Q E B F X N Tp hk hd hu hret
  refine wpAny_call ?_
  k_dflt cell_enter
  k_steps
  rename AllLt _ _ => hl
  rename Fr _ _ _ _ => lF
  rename News _ _ _ _ => lN
  rename_i l _ _
  refine whl_use (ItemsJ r0 rest l Ts) Ts.length _ lF lN (by first | passes_own | with_unfolding_all passes_own) sub3 (.mk (.ref v) [] Ts [] _ ⟨rfl, rfl, trivial⟩ hc .nil rfl rfl rfl) ?turn
  case turn =>
    intro n m nx h tk hJ F N
    obtain ⟨a, done, todo, vs, cnt, hm, hch, htd, hdt, hnn, hnx⟩ := hJ
    rw [mlocs_form hm] at F
    subst hnx
    have hol : Off l rest := allLt_ne hl
    cases hch with
    | nil hmem =>
      have hmem' := hsub _ hmem
      k_steps
      rename Fr _ _ _ _ => kF
      rename News _ _ _ _ => kN
      rw [List.append_nil] at hdt
      subst hdt
      exact hret _ _ _ _ _ _ _ htd hmem hl (by assumption) _ _ kF kN
    | cons hmem1 hmem2 hT hch =>
      have hmem1' := hsub _ hmem1
      have hmem2' := hsub _ hmem2
      have hlen : vs.length ≤ 100 := by rw [htd.length]; rw [← hdt, List.length_append] at hn; omega
      k_steps
      rename Fr _ _ _ _ => lF
      rename News _ _ _ _ => lN
      exact whl_stop _ lF lN sub3 (.mk _ (by rw [hnn]; exact Nat.lt_succ_self _) (.mk _ _ _ _ _ ⟨rfl, rfl, trivial⟩ hch (htd.snoc hT) (by rw [← hdt, List.append_assoc]; rfl) rfl rfl))
end
example : True ∧ True := by
  try walk1
  repeat (first | trivial | constructor)
section
-- part E4

section
variable {prog : Program} {w : World} {A : Around} {E : Value → Shared → Prop} {s : Shared} {env : Env} {h₀ : Heap} {x : Str} {body : List Stmt} {Q : Flow → Shared → Prop}
theorem unrPost_mono {L I : Addr} {it : Obj} {s₁ s₂ : Shared} {R R' : (Str → Option Value) → Led → Prop} {f : Flow} (h : UnrPost h₀ L s₁ I it R Q f s₂) (k : ∀ m n, (∀ p ∈ n, p.1 ≠ I) → R m n → R' m n) : UnrPost h₀ L s₁ I it R' Q f s₂ := by
  cases f with
  | ret v => exact h
  | brk => exact h
  | next => obtain ⟨h', tk, m', n', e, F, N, o, r⟩ := h; exact ⟨h', tk, m', n', e, F, N, o, k _ _ o r⟩
  | cont => obtain ⟨h', tk, m', n', e, F, N, o, r⟩ := h; exact ⟨h', tk, m', n', e, F, N, o, k _ _ o r⟩
theorem rev_ind {I : Addr} {lp : Addr × Obj} (J : List Value → (Str → Option Value) → Led → Prop)
    (turn : ∀ v r m nx h tk it, J (v :: r) m nx → (∀ p ∈ nx, p.1 ≠ I) → it.cls = .type "list_reverseiterator" → Fr h₀ env.locals h (fun y => if y = x then some v else m y) → News h₀ env.locals h ((I, it) :: nx) →
      wpAny (model prog w) A (execs body env) (UnrPost h₀ env.locals { s with heap := h, toks := tk } I it (fun m' n' => lp ∈ n' ∧ J r m' n') Q) E { s with heap := h, toks := tk })
    (done : ∀ m nx h tk, J [] m nx → Fr h₀ env.locals h m → News h₀ env.locals h nx → Q .next { s with heap := h, toks := tk }) :
    ∀ (vs : List Value) (m : Str → Option Value) (nx : Led), J vs m nx → (∀ p ∈ nx, p.1 ≠ I) → RevRest prog w A E h₀ env x body Q s I lp vs m nx := by
  intro vs
  induction vs with
  | nil => intro m nx hJ _ h tk F N; exact done m nx h tk hJ F N
  | cons v r ih =>
    intro m nx hJ ho it h tk e F N
    exact wpAny_mono (turn v r m nx h tk it hJ ho e F N) (fun f s₃ p => unrPost_mono p fun m' n' o q => ⟨q.1, ih m' n' q.2 o⟩) fun _ _ x => x
theorem iter_rev {ax I : Addr} {vs : List Value} {n : Nat} {m₀ : Str → Option Value} {news news' : Led}
    (hh : A.handled = none) (F : Fr h₀ env.locals s.heap m₀) (N : News h₀ env.locals s.heap news) (hR : Rm (I, revObj ax ((vs.length : Int) - 1)) news news') (ho : ∀ p ∈ news', p.1 ≠ I) (hm : (ax, listOf vs.toArray n) ∈ news')
    (rest : RevRest prog w A E h₀ env x body Q s I (ax, listOf vs.toArray n) vs.reverse m₀ news') :
    wpAny (model prog w) A (pyIter (.ref I)) (fun it s₂ => LoopAtV prog w A h₀ env x body Q E it s₂) E s :=
  iter_revUnr hh F (fun p hp => N p (hR.mem p hp)) (by
    clear rest hm hR N
    induction news' with
    | nil => exact True.intro
    | cons q r ih => exact ⟨.inl (ho q (.head _)), ih fun p hp => ho p (.tail _ hp)⟩) hm rfl rfl rest
end
local macro_rules | `(tactic| walk_at "exec For Name Call cons nil") => `(tactic| (k_here; (rename Fr _ _ _ _ => lF'); (with_unfolding_all refine' For_invVF lF' ?k1 ?k2 ?_; (case k1 => exact rfl); (case k2 => exact rfl); k_whole)))
local macro_rules | `(tactic| walk_at "pyIter ref") => `(tactic| (k_here; (with_reducible show wpAny _ _ (pyIter (Value.ref _)) (fun it s₂ => LoopAtV _ _ _ _ _ _ _ _ _ it s₂) _ _); (rename Fr _ _ _ _ => lF'); (rename News _ _ _ _ => lN'); (with_unfolding_all refine iter_rev (by rfl) lF' lN' (by kbt_split) (by k_all) (by k_mem) ?_); clear lF' lN'))
inductive LaterJ (x dx lw lr : Nat) (d : Obj) (W R : List Value) (n2 : Nat) (rest : Led) (r : List Value) (m : Str → Option Value) (nx : Led) : Prop
  | mk (W' : List Value) (cnt : Nat) : m (Str.ofString "self") = some (.ref x) → W' ++ r = W ++ R.reverse → nx = (x, instObj 472 dx) :: (dx, d) :: (lw, listOf W'.toArray cnt) :: (lr, listOf R.toArray n2) :: rest → LaterJ x dx lw lr d W R n2 rest r m nx
set_option maxHeartbeats 4000000 in
theorem later_spec {w : World} {mean : ExcName → Option Value} {mg mb : Str → Option Value} {rest : Led} {x dx xs xo an at' lo lw : Nat} {nb : Bool} {H : WrH} {la : Str} {ta : Tok} {lr : Nat} {W R : List Value} {n n2 : Nat}
    (hW : W.length ≤ 10000) (hR : R.length ≤ 10000) (o1 : Off lw rest) (n1 : x ≠ lw) (n3 : dx ≠ lw) (n4 : lr ≠ lw) :
    Does 3 w mean mg mb 385 [.ref x, .ref lr] ((x, instObj 472 dx) :: (dx, wrDict H nb xs xo an at' lo lw la ta) :: (lw, listOf W.toArray n) :: (lr, listOf R.toArray n2) :: rest)
      (fun K => ∀ n', K .none ((x, instObj 472 dx) :: (dx, wrDict H nb xs xo an at' lo lw la ta) :: (lw, listOf (W ++ R.reverse).toArray n') :: (lr, listOf R.toArray n2) :: rest)) := by
  unfold Does
  intro dp un gd cn cs fa ccd cl outer A₀ base h₀ L m s Q E B F X N Tp hk hd hu hret
  refine wpAny_call ?_
  k_dflt cell_enter
  k_steps
  rename_i D _ l1
  refine rev_ind (LaterJ x dx lw lr (wrDict H nb xs xo an at' lo lw la ta) W R n2 rest) ?turn ?done R.reverse _ _ (.mk W _ rfl rfl rfl) (by first | k_all | fail)
  case turn =>
    intro v r m nx h tk it hJ hoffI hcls F N
    obtain ⟨W', cnt, hm, hW', hnx⟩ := hJ
    rw [name_form hm] at F
    subst hnx
    have hlen : W'.length ≤ 20000 := by
      have := congrArg List.length hW'
      simp only [List.length_append, List.length_reverse, List.length_cons] at this
      omega
    have n5 : @Ne Nat D lw := by k_ne
    k_steps
    rename Fr _ _ _ _ => lF
    rename News _ _ _ _ => lN
    exact unr_end lF lN (by first | kbt_split | fail) (by first | k_all | fail) ⟨by first | k_mem | fail, .mk _ _ rfl (by rw [← hW']; simp) rfl⟩
  case done =>
    intro m nx h tk hJ F N
    obtain ⟨W', cnt, hm, hW', hnx⟩ := hJ
    subst hnx
    rw [name_form hm] at F
    k_steps
    rename Fr _ _ _ _ => kF
    rename News _ _ _ _ => kN
    rw [List.append_nil] at hW'
    subst hW'
    exact hret _ _ _ kF kN
end
example : True ∧ True := by
  try walk1
  repeat (first | trivial | constructor)
section
-- part E5

inductive Task where
  | raw (s : Str)
  | term (T : Term)
  | lst (Ts : List Term)
inductive TaskIs (led : Led) : Value → Task → Prop
  | raw {a : Addr} {s : Str} {t u o : Tok} : (a, tupO [.str (Str.ofString "raw") t, .str s u, .int 0 o, .bool false]) ∈ led → TaskIs led (.ref a) (.raw s)
  | term {a : Addr} {v : Value} {T : Term} {t o : Tok} {l : Int} : (a, tupO [.str (Str.ofString "term") t, v, .int l o, .bool true]) ∈ led → TermIs led v T → TaskIs led (.ref a) (.term T)
  | lst {a : Addr} {v : Value} {Ts : List Term} {t o : Tok} {l : Int} : (a, tupO [.str (Str.ofString "term") t, v, .int l o, .bool true]) ∈ led → ChainIs led v Ts → TaskIs led (.ref a) (.lst Ts)
theorem TaskIs.mono {led led' : Led} {v : Value} {T : Task} (h : TaskIs led v T) (hs : ∀ p ∈ led, p ∈ led') : TaskIs led' v T := by
  cases h with
  | raw h => exact .raw (hs _ h)
  | term h h2 => exact .term (hs _ h) (h2.mono hs)
  | lst h h2 => exact .lst (hs _ h) (h2.mono hs)
inductive TasksAre (led : Led) : List Value → List Task → Prop
  | nil : TasksAre led [] []
  | cons {v : Value} {T : Task} {vs : List Value} {Ts : List Task} : TaskIs led v T → TasksAre led vs Ts → TasksAre led (v :: vs) (T :: Ts)
theorem TasksAre.mono {led led' : Led} {vs : List Value} {Ts : List Task} (h : TasksAre led vs Ts) (hs : ∀ p ∈ led, p ∈ led') : TasksAre led' vs Ts := by
  induction h with
  | nil => exact .nil
  | cons h _ ih => exact .cons (h.mono hs) ih
theorem TasksAre.snoc {led : Led} {vs : List Value} {Ts : List Task} {v : Value} {T : Task} (h : TasksAre led vs Ts) (h2 : TaskIs led v T) : TasksAre led (vs ++ [v]) (Ts ++ [T]) := by
  induction h with
  | nil => exact .cons h2 .nil
  | cons h _ ih => exact .cons h ih
theorem TasksAre.append {led : Led} {vs us : List Value} {Ts Us : List Task} (h : TasksAre led vs Ts) (h2 : TasksAre led us Us) : TasksAre led (vs ++ us) (Ts ++ Us) := by
  induction h with
  | nil => exact h2
  | cons h _ ih => exact .cons h ih
theorem TasksAre.reverse {led : Led} {vs : List Value} {Ts : List Task} (h : TasksAre led vs Ts) : TasksAre led vs.reverse Ts.reverse := by
  induction h with
  | nil => exact .nil
  | cons h _ ih => rw [List.reverse_cons, List.reverse_cons]; exact ih.snoc h
theorem TasksAre.length {led : Led} {vs : List Value} {Ts : List Task} (h : TasksAre led vs Ts) : vs.length = Ts.length := by
  induction h with
  | nil => rfl
  | cons _ _ ih => simp [ih]
/-- the tasks of a list's items -/
noncomputable def tasksOf (Ts : List Term) : List Task := match Ts with | [] => [] | T :: r => .term T :: r.flatMap fun T => [.raw (Str.ofString ","), .term T]
theorem tasksOf_snoc (T : Term) (Ts : List Term) (T' : Term) : tasksOf (T :: Ts ++ [T']) = tasksOf (T :: Ts) ++ [.raw (Str.ofString ","), .term T'] := by
  simp [tasksOf]
theorem tasksOf_len (Ts : List Term) : (tasksOf Ts).length ≤ 2 * Ts.length := by
  cases Ts with
  | nil => simp [tasksOf]
  | cons T r =>
    have h : (r.flatMap fun T => [Task.raw (Str.ofString ","), Task.term T]).length = 2 * r.length := by
      induction r with
      | nil => rfl
      | cons T r ih => rw [List.flatMap_cons, List.length_append, ih]; simp; omega
    simp only [tasksOf, List.length_cons, h]; omega
theorem app_right {r rl : Led} : ∀ p ∈ r, p ∈ rl ++ r := fun _ hp => List.mem_append_right _ hp
theorem iter_list2 {prog : Program} {w : World} {A : Around} {E : Value → Shared → Prop} {s : Shared} {env : Env} {h₀ : Heap} {target : Expr} {body : List Stmt} {Q : Flow → Shared → Prop} {ax : Addr} {vs : List Value} {n : Nat} {m₀ : Str → Option Value} {news : Led}
    (hh : A.handled = none) (F : Fr h₀ env.locals s.heap m₀) (N : News h₀ env.locals s.heap news) (hm : (ax, listOf vs.toArray n) ∈ news)
    (rest₀ : ∀ (I : Addr), (∀ p ∈ news, p.1 < I) → Rest prog w A E h₀ env target body Q s I "list_iterator" (ax, listOf vs.toArray n) vs m₀ news) :
    wpAny (model prog w) A (pyIter (.ref ax)) (fun it s₂ => TurnsAt prog w A h₀ env target body Q E it s₂) E s :=
  iter_listTurns (vs := vs) hh F N hm rfl rfl fun I l => rest₀ I l
theorem offL {b : Addr} {l r : Led} (h : Off b (l ++ r)) : Off b l := fun p hp => h p (List.mem_append_left _ hp)
local macro_rules | `(tactic| walk_at "exec For Name Name cons nil") => `(tactic| (k_here; (rename Fr _ _ _ _ => lF'); (with_unfolding_all refine' For_turns lF' ?_; k_whole)))
local macro_rules | `(tactic| walk_at "pyIter ref") => `(tactic| (k_here; (with_reducible show wpAny _ _ (pyIter (Value.ref _)) (fun it s₂ => TurnsAt _ _ _ _ _ _ _ _ _ it s₂) _ _); (rename Fr _ _ _ _ => lF'); (rename News _ _ _ _ => lN'); (with_unfolding_all refine iter_list2 (by rfl) lF' lN' (by k_mem) ?_); clear lF' lN'; intro i' l1; (try k_lt l1)))
theorem last1 : lastOf (Str.ofString "[") = Str.ofString "[" := by decide +kernel
noncomputable abbrev tTup (t : Tok) (v : Value) : Obj := tupO [.str (Str.ofString "term") t, v, .int 999 561, .bool true]
noncomputable abbrev rTup (s : Str) (t u o : Tok) : Obj := tupO [.str (Str.ofString "raw") t, .str s u, .int 0 o, .bool false]
inductive WlJ (x dx lo lw lr b c I : Nat) (d ol wl bl : Obj) (r0 rest : Led) (Ts : List Term) (r : List Value) (m : Str → Option Value) (nx : Led) : Prop
  | mk (done todo : List Term) (R' : List Value) (cnt : Nat) (rl rr : Led) : Has m [(Str.ofString "self", .ref x), (Str.ofString "tail", .ref c), (Str.ofString "rows", .ref lr)] → TermsAre r0 r todo → done ++ todo = Ts → rr = rl ++ rest → TasksAre (rl ++ r0) R' (tasksOf done) → Off lr rr → Off dx rr → Off lo rr → Off lw rr → Off I rr →
      nx = (x, instObj 472 dx) :: (dx, d) :: (lo, ol) :: (lw, wl) :: (lr, listOf R'.toArray cnt) :: (b, bl) :: rr → WlJ x dx lo lw lr b c I d ol wl bl r0 rest Ts r m nx
set_option maxHeartbeats 8000000 in
theorem wlist_spec {w : World} {mean : ExcName → Option Value} {mg mb : Str → Option Value} {rest r0 : Led} {x dx xs xo an at' lo lw : Nat} {nb : Bool} {H : WrH} {la : Str} {ta : Tok} {v : Addr} {W O : List Value} {n no : Nat} {Ts : List Term}
    (hla : la ∈ Lasts4) (hO : O.length ≤ 1000) (hW : W.length ≤ 1000) (hc : ChainIs r0 (.ref v) Ts) (hsub : ∀ p ∈ r0, p ∈ rest) (hn : Ts.length ≤ 100) (o1 : Off dx rest) (o2 : Off lo rest) (o3 : Off lw rest) (n1 : x ≠ dx) (n2 : x ≠ lo) (n3 : dx ≠ lo) (n4 : x ≠ lw) (n5 : dx ≠ lw) (n6 : lo ≠ lw) :
    Does 9 w mean mg mb 420 [.ref x, .ref v] ((x, instObj 472 dx) :: (dx, wrDict H nb xs xo an at' lo lw la ta) :: (lo, listOf O.toArray no) :: (lw, listOf W.toArray n) :: rest)
      (fun K => ∀ R n' no' ta' tb rl, TasksAre (rl ++ r0) R (tasksOf Ts ++ [.raw (Str.ofString "]")]) → Off dx rl → Off lo rl → Off lw rl →
        K .none ((x, instObj 472 dx) :: (dx, wrDict H nb xs xo an at' lo lw (Str.ofString "[") ta') :: (lo, listOf (O ++ [Value.str (Str.ofString "[") tb]).toArray no') :: (lw, listOf (W ++ R.reverse).toArray n') :: (rl ++ rest))) := by
  unfold Does
  intro dp un gd cn cs fa ccd cl outer A₀ base h₀ L m s Q E B F X N Tp hk hd hu hret
  have n7 := n3.symm
  have n8 := n5.symm
  have n9 := n6.symm
  refine wpAny_call ?_
  k_dflt cell_enter
  k_steps
  ((first | unfold Stop | unfold Stop2); k_dflt (refine' does_use ?Bx1 ?Fx1 ?Xx1 ?Nx1 ?Tx1 ?hkx1 (items_spec ?a1x1 ?a2x1 ?a3x1) ?pkx1 ?hdx1 ?hux1 ?_; (case Bx1 => k_asm); (case Fx1 => k_asm); (case Xx1 => k_asm); (case Nx1 => k_asm); (case Tx1 => k_asm); (case hkx1 => first | exact rfl | assumption); (case pkx1 => exact Pk.nil); (case a1x1 => assumption); (case a2x1 => ksw_less); (case a3x1 => omega); (case hdx1 => ktr_room); (case hux1 => ktr_units)); intro a b c vs m9 tc uc hT9 hc9 l9 l10 hz9 tz9 F9 N9; (try dsimp only))
  k_steps
  ((first | unfold Stop | unfold Stop2); k_dflt (refine' does_use ?Bx2 ?Fx2 ?Xx2 ?Nx2 ?Tx2 ?hkx2 (token_spec ?a1x2 ?a2x2 ?a3x2 ?a4x2 ?a5x2 ?a6x2 ?a7x2 ?a8x2 ?a9x2 ?a10x2) ?pkx2 ?hdx2 ?hux2 ?_; (case Bx2 => k_asm); (case Fx2 => k_asm); (case Xx2 => k_asm); (case Nx2 => k_asm); (case Tx2 => k_asm); (case hkx2 => first | exact rfl | assumption); (case pkx2 => (refine' Pk.cons ?q1x2 (Pk.cons ?q2x2 (Pk.cons ?q3x2 Pk.nil)); (case q1x2 => kbt_split); (case q2x2 => kbt_split); (case q3x2 => kbt_split))); (case a1x2 => first | assumption | (unfold Lasts4; simp; done)); (case a2x2 => omega); (case a3x2 => first | assumption | decide +kernel); (case a4x2 => first | assumption | decide +kernel); (case a5x2 => first | assumption | decide +kernel); (case a6x2 => k_all); (case a7x2 => k_all); (case a8x2 => k_ne); (case a9x2 => k_ne); (case a10x2 => k_ne); (case hdx2 => ktr_room); (case hux2 => ktr_units)); intro ta9 no9 hz9 tz9 F9 N9; (try dsimp only))
  k_steps
  rename_i tb lr _ q1 _ I q2
  have e1 : @Ne Nat x lr := by k_ne
  have e2 : @Ne Nat dx lr := by k_ne
  have e3 : @Ne Nat lo lr := by k_ne
  have e4 : @Ne Nat lw lr := by k_ne
  have e5 : @Ne Nat b lr := by k_ne
  have e6 : @Ne Nat b lw := by k_ne
  have f1 : @Ne Nat x I := by k_ne
  have f2 : @Ne Nat dx I := by k_ne
  have f3 : @Ne Nat lo I := by k_ne
  have f4 : @Ne Nat lw I := by k_ne
  have f5 : @Ne Nat lr I := by k_ne
  have f6 : @Ne Nat b I := by k_ne
  have oI : Off I rest := allLt_ne (by krn_off)
  have oR : Off lr rest := allLt_ne (by krn_off)
  clear l9 l10 q1 q2
  refine rest_go (WlJ x dx lo lw lr b c I (wrDict H nb xs xo an at' lo lw (lastOf (Str.ofString "[")) ta9) (listOf (O ++ [Value.str (Str.ofString "[") tb]).toArray no9) (listOf W.toArray n) (listOf vs.toArray m9) r0 rest Ts) ((x, instObj 472 dx) :: (dx, wrDict H nb xs xo an at' lo lw (lastOf (Str.ofString "[")) ta9) :: (lo, listOf (O ++ [Value.str (Str.ofString "[") tb]).toArray no9) :: (lw, listOf W.toArray n) :: (lr, listOf ([] : List Value).toArray 0) :: (b, listOf vs.toArray m9) :: rest) (by first | ksw_less | fail) (.mk [] Ts [] 0 [] rest ⟨rfl, rfl, rfl, trivial⟩ hT9 rfl rfl .nil oR o1 o2 o3 oI rfl) ?off ?turn ?done
  case off => k_all
  case turn =>
    intro v r m nx h tk it hJ hoffI hcls F N
    obtain ⟨done, todo, R', cnt, rl, rr, hm, hr, hdt, hrr, hR, p1, p2, p3, p4, p5, hnx⟩ := hJ
    rw [mlocs_form hm] at F
    have hrs : ∀ p ∈ rest, p ∈ rr := by subst hrr; exact app_right
    subst hnx
    cases hr with
    | cons hT hr =>
      have hlen : R'.length ≤ 200 := by
        have h1 := tasksOf_len done
        have h2 := congrArg List.length hdt
        rw [List.length_append] at h2
        rw [hR.length]; omega
      cases done with
      | nil =>
        cases hR
        k_steps
        rename AllLt _ _ => l1
        rename Fr _ _ _ _ => lF
        rename News _ _ _ _ => lN
        rename_i t3 D _ _
        refine turn_sub (news' := (x, instObj 472 dx) :: (dx, wrDict H nb xs xo an at' lo lw (lastOf (Str.ofString "[")) ta9) :: (lo, listOf (O ++ [Value.str (Str.ofString "[") tb]).toArray no9) :: (lw, listOf W.toArray n) :: (lr, listOf ([Value.ref D]).toArray (cnt + 1)) :: (b, listOf vs.toArray m9) :: ((D, tTup t3 v) :: rr)) lF lN (by first | ksw_less | fail) (by first | k_all | fail) (by first | k_mem | fail) (.mk [_] _ [Value.ref D] _ ((D, tTup t3 v) :: rl) ((D, tTup t3 v) :: rr) ⟨rfl, rfl, rfl, trivial⟩ hr hdt (by rw [hrr]; exact rfl) (.cons (.term (.head _) (hT.mono fun p hp => .tail _ (app_right p hp))) .nil) (off1 (by k_ne) p1) (off1 (by k_ne) p2) (off1 (by k_ne) p3) (off1 (by k_ne) p4) (off1 (by k_ne) p5) rfl)
      | cons T0 done =>
        cases hR with
        | @cons v0 _ R0 _ hR0 hR =>
          k_steps
          rename_i t2 D1 _ l1 _ t3 D2 _ l2 _ lF lN
          simp only [List.concat_eq_append, List.append_assoc, List.cons_append, List.nil_append, List.push_toArray] at lN
          refine turn_sub (news' := (x, instObj 472 dx) :: (dx, wrDict H nb xs xo an at' lo lw (lastOf (Str.ofString "[")) ta9) :: (lo, listOf (O ++ [Value.str (Str.ofString "[") tb]).toArray no9) :: (lw, listOf W.toArray n) :: (lr, listOf (v0 :: (R0 ++ [Value.ref D1, Value.ref D2])).toArray (cnt + 1 + 1)) :: (b, listOf vs.toArray m9) :: ((D2, tTup t3 v) :: (D1, rTup (Str.ofString ",") t2 (t2 + 1) (t2 + 1 + 1)) :: rr)) lF lN (by first | ksw_less | fail) (by first | k_all | fail) (by first | k_mem | fail) (.mk (T0 :: done ++ [_]) _ (v0 :: (R0 ++ [Value.ref D1, Value.ref D2])) (cnt + 1 + 1) ((D2, tTup t3 v) :: (D1, rTup (Str.ofString ",") t2 (t2 + 1) (t2 + 1 + 1)) :: rl) ((D2, tTup t3 v) :: (D1, rTup (Str.ofString ",") t2 (t2 + 1) (t2 + 1 + 1)) :: rr) ⟨rfl, rfl, rfl, trivial⟩ hr ?e3 (by rw [hrr]; exact rfl) (tasksOf_snoc _ _ _ ▸ (TasksAre.append (TasksAre.mono (.cons hR0 hR) fun p hp => .tail _ (.tail _ hp)) (.cons (.raw (.tail _ (.head _))) (.cons (.term (.head _) (hT.mono fun p hp => .tail _ (.tail _ (app_right p hp)))) .nil)))) (off1 (by k_ne) (off1 (by k_ne) p1)) (off1 (by k_ne) (off1 (by k_ne) p2)) (off1 (by k_ne) (off1 (by k_ne) p3)) (off1 (by k_ne) (off1 (by k_ne) p4)) (off1 (by k_ne) (off1 (by k_ne) p5)) rfl)
          case e3 => rw [← hdt]; simp
  case done =>
    intro m nx h tk hJ F N
    obtain ⟨done, todo, R', cnt, rl, rr, hm, hr, hdt, hrr, hR, p1, p2, p3, p4, p5, hnx⟩ := hJ
    rw [mlocs_form hm] at F
    have hrs : ∀ p ∈ rest, p ∈ rr := by subst hrr; exact app_right
    have hc9' := hrs _ (hsub _ hc9)
    subst hnx
    cases hr
    rw [List.append_nil] at hdt
    have hlen : R'.length ≤ 300 := by
      have h1 := tasksOf_len done
      have h2 := congrArg List.length hdt
      rw [hR.length]; omega
    k_steps
    rename_i D _ l1 _ _ _
    ((first | unfold Stop | unfold Stop2); k_dflt (refine' does_use ?Bx3 ?Fx3 ?Xx3 ?Nx3 ?Tx3 ?hkx3 (later_spec ?a1x3 ?a2x3 ?a3x3 ?a4x3 ?a5x3 ?a6x3) ?pkx3 ?hdx3 ?hux3 ?_; (case Bx3 => k_asm); (case Fx3 => k_asm); (case Xx3 => k_asm); (case Nx3 => k_asm); (case Tx3 => k_asm); (case hkx3 => first | exact rfl | assumption); (case pkx3 => (refine' Pk.cons ?q1x3 (Pk.cons ?q2x3 (Pk.cons ?q3x3 (Pk.cons ?q4x3 Pk.nil))); (case q1x3 => kbt_split); (case q2x3 => kbt_split); (case q3x3 => kbt_split); (case q4x3 => kbt_split))); (case a1x3 => omega); (case a2x3 => first | omega | (simp only [List.concat_eq_append, List.length_append, List.length_cons, List.length_nil]; omega)); (case a3x3 => k_all); (case a4x3 => k_ne); (case a5x3 => k_ne); (case a6x3 => k_ne); (case hdx3 => ktr_room); (case hux3 => ktr_units)); intro no7 hz9 tz9 F9 N9; (try dsimp only))
    k_steps
    rename Fr _ _ _ _ => kF
    rename News _ _ _ _ => kN
    simp only [List.concat_eq_append, List.toList_toArray] at kN
    subst hrr
    rw [last1] at kN
    refine hret (R' ++ [Value.ref D]) _ no9 ta9 _ ((D, _) :: rl) (TasksAre.snoc (hdt ▸ hR.mono fun p hp => .tail _ hp) (.raw (.head _))) (off1 (by k_ne) (offL p2)) (off1 (by k_ne) (offL p3)) (off1 (by k_ne) (offL p4)) _ _ kF (cb_drop kN (by first | (iterate 4 (refine sub1 ?_ ?_; (focus k_mem))); (refine sub1 ?_ ?_; (focus k_mem)); (intro p hp; (repeat (first | exact hp | apply List.Mem.tail))) | fail))
end
example : True ∧ True := by
  try walk1
  repeat (first | trivial | constructor)
section
-- part E6

theorem grow_len {ys : List Str} (hs : Short ys) : ∀ n t, 1 ≤ t.length → t.length ≤ 20 → 1 ≤ (grow ys n t).length ∧ (grow ys n t).length ≤ 20
  | 0, t, h1, h2 => ⟨h1, h2⟩
  | n + 1, t, h1, h2 => by
    unfold grow
    split
    · rename_i h
      have h5 : ¬ 5 ≤ t.length := fun h5 => by rw [short_any hs h5] at h; cases h
      have h6 : (t ++ Str.ofString "_").length = t.length + 1 := by rw [Str.length_append, show (Str.ofString "_").length = 1 from by decide +kernel]
      exact grow_len hs n _ (by omega) (by omega)
    · exact ⟨h1, h2⟩
theorem look_mem {c : Tbl} {k : Int} {t : Str} (h : look c k = some t) : t ∈ vals c := by
  unfold look at h
  cases e : c.find? (fun p => decide (p.1 = k)) with
  | none => rw [e] at h; cases h
  | some p =>
    rw [e] at h
    cases h
    exact List.mem_map.mpr ⟨p, List.mem_of_find?_eq_some e, rfl⟩
noncomputable def Long (ys : List Str) : Prop := ∀ y ∈ ys, 1 ≤ y.length
theorem name_len {c : Tbl} {k : Int} (hs : Short (vals c)) (hl : Long (vals c)) (h0 : 0 ≤ k) (h3 : k < 4) : 1 ≤ (nameT c k).length ∧ (nameT c k).length ≤ 20 := by
  unfold nameT
  cases h : look c k with
  | some t =>
    have h1 := hs t (look_mem h)
    have h2 := hl t (look_mem h)
    refine ⟨h2, ?_⟩
    show t.length ≤ 20
    omega
  | none =>
    have h2 := uk_len h0 h3
    exact grow_len hs 4 (uk k) (by omega) (by omega)
theorem str_ne {t : Str} (h : 1 ≤ t.length) : (t != Str.ofString "") = true := by
  rw [bne_iff_ne]
  intro e
  rw [e] at h
  exact absurd h (by decide +kernel)
set_option maxHeartbeats 8000000 in
theorem wv_spec {w : World} {mean : ExcName → Option Value} {mg mb : Str → Option Value} {rest : Led} {x dx xs xo an at' lo lw : Nat} {nb : Bool} {H : WrH} {la : Str} {ta : Tok} {v : Addr} {O : List Value} {no : Nat} {k l : Int} {tl : Tok} {c : Tbl} {on ot : Obj} {kn : List (Int × Value)} {kt : List (Str × Value)}
    (hs : Short (vals c)) (hl : Long (vals c)) (hdn : on.IsDictOf (PySem.intKind P0 w) kn) (hfn : FlatPairs PyData.int kn (tblD c)) (hln : (an == sysModules) = false) (hdt : ot.IsDictOf (PySem.strKind P0 w) kt) (hft : FlatPairs PyData.str kt (takD (vals c))) (hlt : (at' == sysModules) = false) (hk0 : 0 ≤ k) (hk3 : k < 4)
    (hla : la ∈ Lasts4) (hO : O.length ≤ 1000) (hT : TermIs rest (.ref v) (.v k)) (m3 : (an, on) ∈ rest) (m4 : (at', ot) ∈ rest) (o1 : Off dx rest) (o2 : Off lo rest) (n1 : x ≠ dx) (n2 : x ≠ lo) (n3 : dx ≠ lo) :
    Does 9 w mean mg mb 392 [.ref x, .ref v, .int l tl, .bool true] ((x, instObj 472 dx) :: (dx, wrDict H nb xs xo an at' lo lw la ta) :: (lo, listOf O.toArray no) :: rest)
      (fun K => ∀ no' ta' tb, K .none ((x, instObj 472 dx) :: (dx, wrDict H nb xs xo an at' lo lw (lastOf (nameT c k)) ta') :: (lo, listOf (O ++ [Value.str (nameT c k) tb]).toArray no') :: rest)) := by
  unfold Does
  intro dp un gd cn cs fa ccd cl outer A₀ base h₀ L m s Q E B F X N Tp hk hd hu hret
  obtain ⟨hn1, hn2⟩ := name_len hs hl hk0 hk3
  have hn3 : (nameT c k).length ≤ 1000 := Nat.le_trans hn2 (by decide)
  have hn4 := str_ne hn1
  cases hT with
  | v hm =>
    refine wpAny_call ?_
    k_dflt cell_enter
    (k_steps; (repeat' (unfold Stop; first | (k_dflt (refine' does_use ?Bx1 ?Fx1 ?Xx1 ?Nx1 ?Tx1 ?hkx1 (token_spec ?a1x1 ?a2x1 ?a3x1 ?a4x1 ?a5x1 ?a6x1 ?a7x1 ?a8x1 ?a9x1 ?a10x1) ?pkx1 ?hdx1 ?hux1 ?_; (case Bx1 => k_asm); (case Fx1 => k_asm); (case Xx1 => k_asm); (case Nx1 => k_asm); (case Tx1 => k_asm); (case hkx1 => first | exact rfl | assumption); (case pkx1 => (refine' Pk.cons ?q1x1 (Pk.cons ?q2x1 (Pk.cons ?q3x1 Pk.nil)); (case q1x1 => kbt_split); (case q2x1 => kbt_split); (case q3x1 => kbt_split))); (case a1x1 => first | assumption | (unfold Lasts4; simp; done)); (case a2x1 => omega); (case a3x1 => first | assumption | decide +kernel); (case a4x1 => first | assumption | decide +kernel); (case a5x1 => first | assumption | decide +kernel); (case a6x1 => k_all); (case a7x1 => k_all); (case a8x1 => k_ne); (case a9x1 => k_ne); (case a10x1 => k_ne); (case hdx1 => ktr_room); (case hux1 => ktr_units)); intro _ _ _ _ _ _; (try dsimp only); (try k_steps)) | (k_dflt (refine' does_use ?Bx2 ?Fx2 ?Xx2 ?Nx2 ?Tx2 ?hkx2 (number_spec ?a1x2) ?pkx2 ?hdx2 ?hux2 ?_; (case Bx2 => k_asm); (case Fx2 => k_asm); (case Xx2 => k_asm); (case Nx2 => k_asm); (case Tx2 => k_asm); (case hkx2 => first | exact rfl | assumption); (case pkx2 => exact Pk.nil); (case a1x2 => first | assumption | decide +kernel); (case hdx2 => ktr_room); (case hux2 => ktr_units)); intro _ _ _ _ _; (try dsimp only); (try k_steps)) | (k_dflt (refine' does_use ?Bx3 ?Fx3 ?Xx3 ?Nx3 ?Tx3 ?hkx3 (var_spec ?a1x3 ?a2x3 ?a3x3 ?a4x3 ?a5x3 ?a6x3 ?a7x3 ?a8x3 ?a9x3 ?a10x3 ?a11x3 ?a12x3 ?a13x3) ?pkx3 ?hdx3 ?hux3 ?_; (case Bx3 => k_asm); (case Fx3 => k_asm); (case Xx3 => k_asm); (case Nx3 => k_asm); (case Tx3 => k_asm); (case hkx3 => first | exact rfl | assumption); (case pkx3 => exact Pk.nil); (case a1x3 => k_mem); (case a2x3 => k_mem); (case a3x3 => k_mem); (case a4x3 => k_mem); (case a5x3 => assumption); (case a6x3 => k_asm); (case a7x3 => assumption); (case a8x3 => assumption); (case a9x3 => k_asm); (case a10x3 => assumption); (case a11x3 => assumption); (case a12x3 => assumption); (case a13x3 => assumption); (case hdx3 => ktr_room); (case hux3 => ktr_units)); intro _ _ _ _ _; (try dsimp only); (try k_steps)))))
    rename Fr _ _ _ _ => kF
    rename News _ _ _ _ => kN
    exact hret _ _ _ _ _ kF kN
set_option maxHeartbeats 8000000 in
theorem wi_spec {w : World} {mean : ExcName → Option Value} {mg mb : Str → Option Value} {rest : Led} {x dx xs xo an at' lo lw : Nat} {nb : Bool} {H : WrH} {la : Str} {ta : Tok} {v : Addr} {O : List Value} {no : Nat} {f l : Int} {tl : Tok}
    (hf : f ∈ Nums) (hla : la ∈ Lasts4) (hO : O.length ≤ 1000) (hT : TermIs rest (.ref v) (.i f)) (o1 : Off dx rest) (o2 : Off lo rest) (n1 : x ≠ dx) (n2 : x ≠ lo) (n3 : dx ≠ lo) :
    Does 9 w mean mg mb 392 [.ref x, .ref v, .int l tl, .bool true] ((x, instObj 472 dx) :: (dx, wrDict H nb xs xo an at' lo lw la ta) :: (lo, listOf O.toArray no) :: rest)
      (fun K => ∀ no' ta' tb, K .none ((x, instObj 472 dx) :: (dx, wrDict H nb xs xo an at' lo lw (lastOf (numT f)) ta') :: (lo, listOf (O ++ [Value.str (numT f) tb]).toArray no') :: rest)) := by
  unfold Does
  intro dp un gd cn cs fa ccd cl outer A₀ base h₀ L m s Q E B F X N Tp hk hd hu hret
  have hn1 : 1 ≤ (numT f).length ∧ (numT f).length ≤ 1000 := by
    unfold Nums at hf
    simp only [List.mem_cons, List.not_mem_nil, or_false] at hf
    rcases hf with rfl | rfl | rfl | rfl | rfl | rfl | rfl <;> decide +kernel
  obtain ⟨hn1, hn3⟩ := hn1
  have hn4 := str_ne hn1
  cases hT with
  | i hm =>
    refine wpAny_call ?_
    k_dflt cell_enter
    (k_steps; (repeat' (unfold Stop; first | (k_dflt (refine' does_use ?Bx4 ?Fx4 ?Xx4 ?Nx4 ?Tx4 ?hkx4 (token_spec ?a1x4 ?a2x4 ?a3x4 ?a4x4 ?a5x4 ?a6x4 ?a7x4 ?a8x4 ?a9x4 ?a10x4) ?pkx4 ?hdx4 ?hux4 ?_; (case Bx4 => k_asm); (case Fx4 => k_asm); (case Xx4 => k_asm); (case Nx4 => k_asm); (case Tx4 => k_asm); (case hkx4 => first | exact rfl | assumption); (case pkx4 => (refine' Pk.cons ?q1x4 (Pk.cons ?q2x4 (Pk.cons ?q3x4 Pk.nil)); (case q1x4 => kbt_split); (case q2x4 => kbt_split); (case q3x4 => kbt_split))); (case a1x4 => first | assumption | (unfold Lasts4; simp; done)); (case a2x4 => omega); (case a3x4 => first | assumption | decide +kernel); (case a4x4 => first | assumption | decide +kernel); (case a5x4 => first | assumption | decide +kernel); (case a6x4 => k_all); (case a7x4 => k_all); (case a8x4 => k_ne); (case a9x4 => k_ne); (case a10x4 => k_ne); (case hdx4 => ktr_room); (case hux4 => ktr_units)); intro _ _ _ _ _ _; (try dsimp only); (try k_steps)) | (k_dflt (refine' does_use ?Bx5 ?Fx5 ?Xx5 ?Nx5 ?Tx5 ?hkx5 (number_spec ?a1x5) ?pkx5 ?hdx5 ?hux5 ?_; (case Bx5 => k_asm); (case Fx5 => k_asm); (case Xx5 => k_asm); (case Nx5 => k_asm); (case Tx5 => k_asm); (case hkx5 => first | exact rfl | assumption); (case pkx5 => exact Pk.nil); (case a1x5 => first | assumption | decide +kernel); (case hdx5 => ktr_room); (case hux5 => ktr_units)); intro _ _ _ _ _; (try dsimp only); (try k_steps)) | (k_dflt (refine' does_use ?Bx6 ?Fx6 ?Xx6 ?Nx6 ?Tx6 ?hkx6 (var_spec ?a1x6 ?a2x6 ?a3x6 ?a4x6 ?a5x6 ?a6x6 ?a7x6 ?a8x6 ?a9x6 ?a10x6 ?a11x6 ?a12x6 ?a13x6) ?pkx6 ?hdx6 ?hux6 ?_; (case Bx6 => k_asm); (case Fx6 => k_asm); (case Xx6 => k_asm); (case Nx6 => k_asm); (case Tx6 => k_asm); (case hkx6 => first | exact rfl | assumption); (case pkx6 => exact Pk.nil); (case a1x6 => k_mem); (case a2x6 => k_mem); (case a3x6 => k_mem); (case a4x6 => k_mem); (case a5x6 => assumption); (case a6x6 => k_asm); (case a7x6 => assumption); (case a8x6 => assumption); (case a9x6 => k_asm); (case a10x6 => assumption); (case a11x6 => assumption); (case a12x6 => assumption); (case a13x6 => assumption); (case hdx6 => ktr_room); (case hux6 => ktr_units)); intro _ _ _ _ _; (try dsimp only); (try k_steps)))))
    rename Fr _ _ _ _ => kF
    rename News _ _ _ _ => kN
    exact hret _ _ _ _ _ kF kN
noncomputable def NotNum (nb : Bool) (arg : Term) : Prop := nb = false ∨ (∃ f, arg = .i f ∧ f < 0) ∨ ∃ n, arg = .a n
theorem ge_yes {prog : Program} {w : World} {A : Around} {E : Value → Shared → Prop} {s : Shared} {Q : Value → Shared → Prop} {x y : Int} {t u : Tok} (h : x ≥ y) (k : Q (.bool true) s) : wpAny (model prog w) A (compareOp .GtE (.int x t) (.int y u)) Q E s := ge_int (by rw [decide_eq_true h]; exact k)
section
local macro_rules | `(tactic| walk_at "compareOp GtE int int") => `(tactic| (k_here; first | refine ge_yes (by omega) ?_ | refine ge_no (by omega) ?_))
set_option maxHeartbeats 8000000 in
theorem isnum_yes {w : World} {mean : ExcName → Option Value} {mg mb : Str → Option Value} {rest : Led} {x dx xs xo an at' lo lw : Nat} {H : WrH} {la : Str} {ta : Tok} {v : Addr} {f : Int}
    (m1 : (x, instObj 472 dx) ∈ rest) (m2 : (dx, wrDict H true xs xo an at' lo lw la ta) ∈ rest) (hf : 0 ≤ f) (hT : TermIs rest (.ref v) (.fn (.i f))) :
    Does 3 w mean mg mb 406 [.ref x, .ref v] rest (fun K => K (.bool true) rest) := by
  unfold Does
  intro dp un gd cn cs fa ccd cl outer A₀ base h₀ L m s Q E B F X N Tp hk hd hu hret
  cases hT with
  | fn hm1 hm2 hT =>
    cases hT with
    | i hm3 =>
      refine wpAny_call ?_
      k_dflt cell_enter
      k_steps
      rename Fr _ _ _ _ => kF
      rename News _ _ _ _ => kN
      exact hret _ _ kF kN
set_option maxHeartbeats 8000000 in
theorem isnum_spec {w : World} {mean : ExcName → Option Value} {mg mb : Str → Option Value} {rest : Led} {x dx xs xo an at' lo lw : Nat} {nb : Bool} {H : WrH} {la : Str} {ta : Tok} {v : Addr} {arg : Term}
    (m1 : (x, instObj 472 dx) ∈ rest) (m2 : (dx, wrDict H nb xs xo an at' lo lw la ta) ∈ rest) (hN : NotNum nb arg) (hT : TermIs rest (.ref v) (.fn arg)) :
    Does 3 w mean mg mb 406 [.ref x, .ref v] rest (fun K => K (.bool false) rest) := by
  unfold Does
  intro dp un gd cn cs fa ccd cl outer A₀ base h₀ L m s Q E B F X N Tp hk hd hu hret
  cases hT with
  | fn hm1 hm2 hT =>
    cases nb with
    | false =>
      refine wpAny_call ?_
      k_dflt cell_enter
      k_steps
      rename Fr _ _ _ _ => kF
      rename News _ _ _ _ => kN
      exact hret _ _ kF kN
    | true =>
      rcases hN with hnb | ⟨f, ha, hf⟩ | ⟨n, ha⟩
      · cases hnb
      · subst ha
        cases hT with
        | i hm3 =>
          refine wpAny_call ?_
          k_dflt cell_enter
          k_steps
          rename Fr _ _ _ _ => kF
          rename News _ _ _ _ => kN
          exact hret _ _ kF kN
      · subst ha
        cases hT with
        | a hm3 =>
          refine wpAny_call ?_
          k_dflt cell_enter
          k_steps
          rename Fr _ _ _ _ => kF
          rename News _ _ _ _ => kN
          exact hret _ _ kF kN
end
set_option maxHeartbeats 8000000 in
theorem wn_spec {w : World} {mean : ExcName → Option Value} {mg mb : Str → Option Value} {rest : Led} {x dx xs xo an at' lo lw : Nat} {nb : Bool} {H : WrH} {la : Str} {ta : Tok} {v : Addr} {O : List Value} {no : Nat} {f l : Int} {tl : Tok}
    (hnb : nb = true) (hf : f ∈ [(0 : Int), 25, 26, 27, 700]) (hla : la ∈ Lasts4) (hO : O.length ≤ 1000) (hT : TermIs rest (.ref v) (.fn (.i f))) (o1 : Off dx rest) (o2 : Off lo rest) (n1 : x ≠ dx) (n2 : x ≠ lo) (n3 : dx ≠ lo) :
    Does 9 w mean mg mb 392 [.ref x, .ref v, .int l tl, .bool true] ((x, instObj 472 dx) :: (dx, wrDict H nb xs xo an at' lo lw la ta) :: (lo, listOf O.toArray no) :: rest)
      (fun K => ∀ no' ta' tb, K .none ((x, instObj 472 dx) :: (dx, wrDict H nb xs xo an at' lo lw (lastOf (varT f)) ta') :: (lo, listOf (O ++ [Value.str (varT f) tb]).toArray no') :: rest)) := by
  unfold Does
  intro dp un gd cn cs fa ccd cl outer A₀ base h₀ L m s Q E B F X N Tp hk hd hu hret
  subst hnb
  have hn1 : 0 ≤ f ∧ 1 ≤ (varT f).length ∧ (varT f).length ≤ 1000 := by
    simp only [List.mem_cons, List.not_mem_nil, or_false] at hf
    rcases hf with rfl | rfl | rfl | rfl | rfl <;> decide +kernel
  obtain ⟨hf0, hn1, hn3⟩ := hn1
  have hn4 := str_ne hn1
  have hT0 := hT
  cases hT with
  | fn hm1 hm2 hT =>
    cases hT with
    | i hm3 =>
      refine wpAny_call ?_
      k_dflt cell_enter
      (k_steps; (repeat' (unfold Stop; first | (k_dflt (refine' does_use ?Bx7 ?Fx7 ?Xx7 ?Nx7 ?Tx7 ?hkx7 (token_spec ?a1x7 ?a2x7 ?a3x7 ?a4x7 ?a5x7 ?a6x7 ?a7x7 ?a8x7 ?a9x7 ?a10x7) ?pkx7 ?hdx7 ?hux7 ?_; (case Bx7 => k_asm); (case Fx7 => k_asm); (case Xx7 => k_asm); (case Nx7 => k_asm); (case Tx7 => k_asm); (case hkx7 => first | exact rfl | assumption); (case pkx7 => (refine' Pk.cons ?q1x7 (Pk.cons ?q2x7 (Pk.cons ?q3x7 Pk.nil)); (case q1x7 => kbt_split); (case q2x7 => kbt_split); (case q3x7 => kbt_split))); (case a1x7 => first | assumption | (unfold Lasts4; simp; done)); (case a2x7 => omega); (case a3x7 => first | assumption | decide +kernel); (case a4x7 => first | assumption | decide +kernel); (case a5x7 => first | assumption | decide +kernel); (case a6x7 => k_all); (case a7x7 => k_all); (case a8x7 => k_ne); (case a9x7 => k_ne); (case a10x7 => k_ne); (case hdx7 => ktr_room); (case hux7 => ktr_units)); intro _ _ _ _ _ _; (try dsimp only); (try k_steps)) | (k_dflt (refine' does_use ?Bx8 ?Fx8 ?Xx8 ?Nx8 ?Tx8 ?hkx8 (number_spec ?a1x8) ?pkx8 ?hdx8 ?hux8 ?_; (case Bx8 => k_asm); (case Fx8 => k_asm); (case Xx8 => k_asm); (case Nx8 => k_asm); (case Tx8 => k_asm); (case hkx8 => first | exact rfl | assumption); (case pkx8 => exact Pk.nil); (case a1x8 => first | assumption | decide +kernel); (case hdx8 => ktr_room); (case hux8 => ktr_units)); intro _ _ _ _ _; (try dsimp only); (try k_steps)) | (k_dflt (refine' does_use ?Bx9 ?Fx9 ?Xx9 ?Nx9 ?Tx9 ?hkx9 (var_spec ?a1x9 ?a2x9 ?a3x9 ?a4x9 ?a5x9 ?a6x9 ?a7x9 ?a8x9 ?a9x9 ?a10x9 ?a11x9 ?a12x9 ?a13x9) ?pkx9 ?hdx9 ?hux9 ?_; (case Bx9 => k_asm); (case Fx9 => k_asm); (case Xx9 => k_asm); (case Nx9 => k_asm); (case Tx9 => k_asm); (case hkx9 => first | exact rfl | assumption); (case pkx9 => exact Pk.nil); (case a1x9 => k_mem); (case a2x9 => k_mem); (case a3x9 => k_mem); (case a4x9 => k_mem); (case a5x9 => assumption); (case a6x9 => k_asm); (case a7x9 => assumption); (case a8x9 => assumption); (case a9x9 => k_asm); (case a10x9 => assumption); (case a11x9 => assumption); (case a12x9 => assumption); (case a13x9 => assumption); (case hdx9 => ktr_room); (case hux9 => ktr_units)); intro _ _ _ _ _; (try dsimp only); (try k_steps)) | (k_dflt (refine' does_use ?Bx10 ?Fx10 ?Xx10 ?Nx10 ?Tx10 ?hkx10 (isnum_yes ?a1x10 ?a2x10 ?a3x10 ?a4x10) ?pkx10 ?hdx10 ?hux10 ?_; (case Bx10 => k_asm); (case Fx10 => k_asm); (case Xx10 => k_asm); (case Nx10 => k_asm); (case Tx10 => k_asm); (case hkx10 => first | exact rfl | assumption); (case pkx10 => exact Pk.nil); (case a1x10 => k_mem); (case a2x10 => k_mem); (case a3x10 => assumption); (case a4x10 => exact TermIs.mono (by assumption) (by ksw_less)); (case hdx10 => ktr_room); (case hux10 => ktr_units)); intro  _ _ _ _; (try dsimp only); (try k_steps)) | (k_dflt (refine' does_use ?Bx11 ?Fx11 ?Xx11 ?Nx11 ?Tx11 ?hkx11 (numbered_spec ?a1x11) ?pkx11 ?hdx11 ?hux11 ?_; (case Bx11 => k_asm); (case Fx11 => k_asm); (case Xx11 => k_asm); (case Nx11 => k_asm); (case Tx11 => k_asm); (case hkx11 => first | exact rfl | assumption); (case pkx11 => exact Pk.nil); (case a1x11 => assumption); (case hdx11 => ktr_room); (case hux11 => ktr_units)); intro _ _ _ _ _; (try dsimp only); (try k_steps)))))
      rename Fr _ _ _ _ => kF
      rename News _ _ _ _ => kN
      exact hret _ _ _ _ _ kF kN
end
example : True ∧ True := by
  try walk1
  repeat (first | trivial | constructor)
section
-- part E7

set_option maxHeartbeats 8000000 in
theorem wa_spec {w : World} {mean : ExcName → Option Value} {mg mb : Str → Option Value} {rest : Led} {x dx xs xo an at' lo lw : Nat} {nb : Bool} {H : WrH} {la : Str} {ta : Tok} {v : Addr} {O : List Value} {no : Nat} {ds bt bn bf bg : Nat} {HS : SymH} {nt : Nat} {vT : List Value} {n l : Int} {tl : Tok} {T : List Str}
    (m1 : (xs, instObj 122 ds) ∈ rest) (m2 : (ds, symDict HS bt bn bf bg) ∈ rest) (m3 : (bt, listOf vT.toArray nt) ∈ rest) (hs : StrsAre vT T) (hn0 : 0 ≤ n) (hn1 : n < 100000) (hTn : T[n.toNat]? = some (Str.ofString "k")) (hla : la ∈ Lasts4) (hO : O.length ≤ 1000) (hT : TermIs rest (.ref v) (.a n)) (o1 : Off dx rest) (o2 : Off lo rest) (n1 : x ≠ dx) (n2 : x ≠ lo) (n3 : dx ≠ lo) :
    Does 9 w mean mg mb 392 [.ref x, .ref v, .int l tl, .bool true] ((x, instObj 472 dx) :: (dx, wrDict H nb xs xo an at' lo lw la ta) :: (lo, listOf O.toArray no) :: rest)
      (fun K => ∀ no' ta' tb, K .none ((x, instObj 472 dx) :: (dx, wrDict H nb xs xo an at' lo lw (lastOf (atomT (Str.ofString "k"))) ta') :: (lo, listOf (O ++ [Value.str (atomT (Str.ofString "k")) tb]).toArray no') :: rest)) := by
  unfold Does
  intro dp un gd cn cs fa ccd cl outer A₀ base h₀ L m s Q E B F X N Tp hk hd hu hret
  cases hT with
  | a hm =>
    refine wpAny_call ?_
    k_dflt cell_enter
    k_steps
    ((first | unfold Stop | unfold Stop2); k_dflt (refine' does_use ?Bx1 ?Fx1 ?Xx1 ?Nx1 ?Tx1 ?hkx1 (atext_spec ?a1x1 ?a2x1 ?a3x1 ?a4x1 ?a5x1 ?a6x1 ?a7x1 ?a8x1) ?pkx1 ?hdx1 ?hux1 ?_; (case Bx1 => k_asm); (case Fx1 => k_asm); (case Xx1 => k_asm); (case Nx1 => k_asm); (case Tx1 => k_asm); (case hkx1 => first | exact rfl | assumption); (case pkx1 => exact Pk.nil); (case a1x1 => k_mem); (case a2x1 => k_mem); (case a3x1 => k_mem); (case a4x1 => assumption); (case a5x1 => first | assumption | decide); (case a6x1 => first | assumption | decide); (case a7x1 => assumption); (case a8x1 => first | exact .inl rfl | exact .inr rfl); (case hdx1 => ktr_room); (case hux1 => ktr_units)); intro tk9 hz9 tz9 F9 N9; (try dsimp only))
    k_steps
    ((first | unfold Stop | unfold Stop2); k_dflt (refine' does_use ?Bx2 ?Fx2 ?Xx2 ?Nx2 ?Tx2 ?hkx2 (token_spec ?a1x2 ?a2x2 ?a3x2 ?a4x2 ?a5x2 ?a6x2 ?a7x2 ?a8x2 ?a9x2 ?a10x2) ?pkx2 ?hdx2 ?hux2 ?_; (case Bx2 => k_asm); (case Fx2 => k_asm); (case Xx2 => k_asm); (case Nx2 => k_asm); (case Tx2 => k_asm); (case hkx2 => first | exact rfl | assumption); (case pkx2 => (refine' Pk.cons ?q1x2 (Pk.cons ?q2x2 (Pk.cons ?q3x2 Pk.nil)); (case q1x2 => kbt_split); (case q2x2 => kbt_split); (case q3x2 => kbt_split))); (case a1x2 => first | assumption | (unfold Lasts4; simp; done)); (case a2x2 => omega); (case a3x2 => first | assumption | decide +kernel); (case a4x2 => first | assumption | decide +kernel); (case a5x2 => first | assumption | decide +kernel); (case a6x2 => k_all); (case a7x2 => k_all); (case a8x2 => k_ne); (case a9x2 => k_ne); (case a10x2 => k_ne); (case hdx2 => ktr_room); (case hux2 => ktr_units)); intro ta9 no9 hz9 tz9 F9 N9; (try dsimp only))
    k_steps
    rename Fr _ _ _ _ => kF
    rename News _ _ _ _ => kN
    exact hret _ _ _ _ _ kF kN
end
example : True ∧ True := by
  try walk1
  repeat (first | trivial | constructor)
section
-- part E8

theorem get_no {prog : Program} {w : World} {A : Around} {E : Value → Shared → Prop} {s : Shared} {h₀ : Heap} {L d : Addr} {news : Led} {o : Obj} {kvs : List (Int × Value)} {k : Int} {tk : Tok} {Q : Value → Shared → Prop} (N : News h₀ L s.heap news) (hp : (d, o) ∈ news) (hd : o.IsDictOf (PySem.intKind prog w) kvs) (lo : (d == sysModules) = false) (hl : valueAt kvs k = none) (h : Q .none { s with toks := s.toks + 1 }) :
    wpAny (model prog w) A (call (.builtin "dict.get") [.ref d, .int k tk]) Q E s := kdg_get1 N hp hd lo (intKind_is _ _ _ _) none hl h
local macro_rules | `(tactic| walk_at "call builtin:dict.get") => `(tactic| (k_here; (with_reducible show wpAny _ _ (call (Value.builtin "dict.get") [Value.ref _, Value.int _ _]) _ _ _); k_dflt (refine get_no (by k_asm) (by k_mem) (by k_asm) (by k_asm) (by first | assumption | rfl) ?_)))
local macro_rules | `(tactic| walk_at "getMethod ref") => `(tactic| (k_here; (with_reducible show wpAny _ _ (getMethod (Value.ref _) (Str.ofString "get") _) _ _ _); k_dflt (refine kdg_method (knd := PySem.intKind _ _) (by k_asm) (by k_mem) (by k_asm) ?_)))
local macro_rules | `(tactic| walk_at "subscriptTail") => `(tactic| (k_here; (with_reducible show wpAny _ _ (subscriptTail _ _ (Value.ref _) (Value.int _ _)) _ _ _); k_dflt (refine item_litK (News.isList (by k_asm) (by k_mem)) (by first | decide | assumption) (by first | decide | omega) (by assumption) ?_)))
/-- the tables that the Writer reads -/
inductive Books (w : World) (xs xo ds bt bn bf bg k17 dy bp bi bq nt nf : Nat) (HS : SymH) (HO : OpsH) (vT Fs : List Value) (tf1 tf2 : Tok) (op oq : Obj) (kp : List (Int × Value)) (rest : Led) : Prop
  | mk : (xs, instObj 122 ds) ∈ rest → (ds, symDict HS bt bn bf bg) ∈ rest → (bt, listOf vT.toArray nt) ∈ rest → (bf, listOf Fs.toArray nf) ∈ rest → (k17, tupO [.int 26 tf1, .int 1 tf2]) ∈ rest → (xo, instObj 287 dy) ∈ rest → (dy, opsDict HO xs bp bi bq) ∈ rest → (bp, op) ∈ rest → (bq, oq) ∈ rest →
      Fs[17]? = some (.ref k17) → op.IsDictOf (PySem.intKind P0 w) kp → valueAt kp 26 = none → oq.IsDictOf (PySem.intKind P0 w) [] → (bp == sysModules) = false → (bq == sysModules) = false → Books w xs xo ds bt bn bf bg k17 dy bp bi bq nt nf HS HO vT Fs tf1 tf2 op oq kp rest
theorem Books.mono {w : World} {xs xo ds bt bn bf bg k17 dy bp bi bq nt nf : Nat} {HS : SymH} {HO : OpsH} {vT Fs : List Value} {tf1 tf2 : Tok} {op oq : Obj} {kp : List (Int × Value)} {rest rest' : Led} (h : Books w xs xo ds bt bn bf bg k17 dy bp bi bq nt nf HS HO vT Fs tf1 tf2 op oq kp rest) (hs : ∀ p ∈ rest, p ∈ rest') : Books w xs xo ds bt bn bf bg k17 dy bp bi bq nt nf HS HO vT Fs tf1 tf2 op oq kp rest' := by
  obtain ⟨h1, h2, h3, h4, h5, h6, h7, h8, h9, a, b, c, d, e, f⟩ := h
  exact ⟨hs _ h1, hs _ h2, hs _ h3, hs _ h4, hs _ h5, hs _ h6, hs _ h7, hs _ h8, hs _ h9, a, b, c, d, e, f⟩
set_option maxHeartbeats 8000000 in
theorem shape_spec {w : World} {mean : ExcName → Option Value} {mg mb : Str → Option Value} {rest : Led} {x dx xs xo an at' lo lw : Nat} {nb : Bool} {H : WrH} {la : Str} {ta : Tok} {v : Addr} {arg : Term} {ds bt bn bf bg k17 dy bp bi bq nt nf : Nat} {HS : SymH} {HO : OpsH} {vT Fs : List Value} {tf1 tf2 : Tok} {op oq : Obj} {kp : List (Int × Value)}
    (m1 : (x, instObj 472 dx) ∈ rest) (m2 : (dx, wrDict H nb xs xo an at' lo lw la ta) ∈ rest) (hB : Books w xs xo ds bt bn bf bg k17 dy bp bi bq nt nf HS HO vT Fs tf1 tf2 op oq kp rest)
    (hN : NotNum nb arg) (hT : TermIs rest (.ref v) (.fn arg)) :
    Does 9 w mean mg mb 434 [.ref x, .ref v] rest (fun K => K .none rest) := by
  unfold Does
  intro dp un gd cn cs fa ccd cl outer A₀ base h₀ L m s Q E B F X N Tp hk hd hu hret
  have hT0 := hT
  obtain ⟨h1, h2, h3, h4, h5, h6, h7, h8, h9, hF, hop, h26, hoq, hbp, hbq⟩ := hB
  cases hT with
  | fn hm1 hm2 hT =>
    refine wpAny_call ?_
    k_dflt cell_enter
    (k_steps; (repeat' (unfold Stop; first | (k_dflt (refine' does_use ?Bx1 ?Fx1 ?Xx1 ?Nx1 ?Tx1 ?hkx1 (isnum_spec ?a1x1 ?a2x1 ?a3x1 ?a4x1) ?pkx1 ?hdx1 ?hux1 ?_; (case Bx1 => k_asm); (case Fx1 => k_asm); (case Xx1 => k_asm); (case Nx1 => k_asm); (case Tx1 => k_asm); (case hkx1 => first | exact rfl | assumption); (case pkx1 => exact Pk.nil); (case a1x1 => k_mem); (case a2x1 => k_mem); (case a3x1 => assumption); (case a4x1 => exact TermIs.mono (by assumption) (by ksw_less)); (case hdx1 => ktr_room); (case hux1 => ktr_units)); intro  _ _ _ _; (try dsimp only); (try k_steps)))))
    rename Fr _ _ _ _ => kF
    rename News _ _ _ _ => kN
    exact hret _ _ kF kN
end
example : True ∧ True := by
  try walk1
  repeat (first | trivial | constructor)
section
-- part E9

local macro_rules | `(tactic| walk_at "subscriptTail") => `(tactic| (k_here; (with_reducible show wpAny _ _ (subscriptTail _ _ (Value.ref _) (Value.int _ _)) _ _ _); k_dflt (refine item_litK (News.isList (by k_asm) (by k_mem)) (by first | decide | assumption) (by first | decide | omega) (by assumption) ?_)))
section
variable {prog : Program} {w : World} {A : Around} {E : Value → Shared → Prop} {s : Shared} {env : Env} {h₀ : Heap} {target : Expr} {body : List Stmt} {Q : Flow → Shared → Prop}
theorem rest_cons {I : Addr} {cls : String} {lp : Addr × Obj} {v : Value} {r : List Value} {m : Str → Option Value} {nx : Led}
    (turn : ∀ h tk it, it.cls = .type cls → Fr h₀ env.locals h m → News h₀ env.locals h ((I, it) :: nx) →
      wpAny (model prog w) A (assign target env v) (fun _ s₂ => wpAny (model prog w) A (execs body env) (UnrPostW h₀ env.locals { s with heap := h, toks := tk } [(I, it)] (fun m' n' => SubL [lp] n' ∧ Rest prog w A E h₀ env target body Q s I cls lp r m' n') Q) E s₂) E { s with heap := h, toks := tk }) :
    Rest prog w A E h₀ env target body Q s I cls lp (v :: r) m nx := by
  intro u h tk e F
  have e' : u = v := e
  subst e'
  exact AllObj.cons fun it hc => AllObj.nil fun N => turn h tk it hc F N
theorem rest_nil {I : Addr} {cls : String} {lp : Addr × Obj} {m : Str → Option Value} {nx : Led} (k : ∀ h tk, Fr h₀ env.locals h m → News h₀ env.locals h nx → Q .next { s with heap := h, toks := tk }) : Rest prog w A E h₀ env target body Q s I cls lp [] m nx := k
end
local macro_rules | `(tactic| walk_at "exec For Name Subscript cons nil") => `(tactic| (k_here; (rename Fr _ _ _ _ => lF'); (with_unfolding_all refine' For_turns lF' ?_; k_whole)))
local macro_rules | `(tactic| walk_at "pyIter ref") => `(tactic| (k_here; (with_reducible show wpAny _ _ (pyIter (Value.ref _)) (fun it s₂ => TurnsAt _ _ _ _ _ _ _ _ _ it s₂) _ _); (rename Fr _ _ _ _ => lF'); (rename News _ _ _ _ => lN'); (with_unfolding_all refine iter_tup2 (by rfl) lF' lN' (by k_mem) ?_); clear lF' lN'; intro i' l1; (try k_lt l1)))
set_option maxHeartbeats 8000000 in
theorem wfun_spec {w : World} {mean : ExcName → Option Value} {mg mb : Str → Option Value} {rest : Led} {x dx xs xo an at' lo lw : Nat} {nb : Bool} {H : WrH} {la : Str} {ta : Tok} {v : Addr} {arg : Term} {ds bt bn bf bg k17 dy bp bi bq nt nf : Nat} {HS : SymH} {HO : OpsH} {vT Fs : List Value} {tf1 tf2 : Tok} {op oq : Obj} {kp : List (Int × Value)} {O W : List Value} {no n : Nat} {T : List Str}
    (hB : Books w xs xo ds bt bn bf bg k17 dy bp bi bq nt nf HS HO vT Fs tf1 tf2 op oq kp rest) (hs : StrsAre vT T) (hTok : T[26]? = some (Str.ofString "$VAR"))
    (hT : TermIs rest (.ref v) (.fn arg)) (hla : la ∈ Lasts4) (hO : O.length ≤ 1000) (hW : W.length ≤ 1000) (o1 : Off dx rest) (o2 : Off lo rest) (o3 : Off lw rest) (n1 : x ≠ dx) (n2 : x ≠ lo) (n3 : dx ≠ lo) (n4 : x ≠ lw) (n5 : dx ≠ lw) (n6 : lo ≠ lw) :
    Does 8 w mean mg mb 427 [.ref x, .ref v] ((x, instObj 472 dx) :: (dx, wrDict H nb xs xo an at' lo lw la ta) :: (lo, listOf O.toArray no) :: (lw, listOf W.toArray n) :: rest)
      (fun K => ∀ R n' no' ta' tb rl, TasksAre (rl ++ rest) R [.raw (Str.ofString "("), .term arg, .raw (Str.ofString ")")] → Off dx rl → Off lo rl → Off lw rl →
        K .none ((x, instObj 472 dx) :: (dx, wrDict H nb xs xo an at' lo lw (lastOf (atomT (Str.ofString "$VAR"))) ta') :: (lo, listOf (O ++ [Value.str (atomT (Str.ofString "$VAR")) tb]).toArray no') :: (lw, listOf (W ++ R.reverse).toArray n') :: (rl ++ rest))) := by
  unfold Does
  intro dp un gd cn cs fa ccd cl outer A₀ base h₀ L m s Q E B F X N Tp hk hd hu hret
  have n7 := n3.symm
  have n8 := n5.symm
  have n9 := n6.symm
  have hT0 := hT
  cases hT with
  | @fn a b y _ t u hm1 hm2 hT =>
    have hB2 := hB
    obtain ⟨h1, h2, h3, h4, h5, h6, h7, h8, h9, hF, hop, h26, hoq, hbp, hbq⟩ := hB2
    refine wpAny_call ?_
    k_dflt cell_enter
    k_steps
    ((first | unfold Stop | unfold Stop2); k_dflt (refine' does_use ?Bx1 ?Fx1 ?Xx1 ?Nx1 ?Tx1 ?hkx1 (atext_spec ?a1x1 ?a2x1 ?a3x1 ?a4x1 ?a5x1 ?a6x1 ?a7x1 ?a8x1) ?pkx1 ?hdx1 ?hux1 ?_; (case Bx1 => k_asm); (case Fx1 => k_asm); (case Xx1 => k_asm); (case Nx1 => k_asm); (case Tx1 => k_asm); (case hkx1 => first | exact rfl | assumption); (case pkx1 => exact Pk.nil); (case a1x1 => k_mem); (case a2x1 => k_mem); (case a3x1 => k_mem); (case a4x1 => assumption); (case a5x1 => first | assumption | decide); (case a6x1 => first | assumption | decide); (case a7x1 => assumption); (case a8x1 => first | exact .inl rfl | exact .inr rfl); (case hdx1 => ktr_room); (case hux1 => ktr_units)); intro tb hz9 tz9 F9 N9; (try dsimp only))
    k_steps
    ((first | unfold Stop | unfold Stop2); k_dflt (refine' does_use ?Bx2 ?Fx2 ?Xx2 ?Nx2 ?Tx2 ?hkx2 (token_spec ?a1x2 ?a2x2 ?a3x2 ?a4x2 ?a5x2 ?a6x2 ?a7x2 ?a8x2 ?a9x2 ?a10x2) ?pkx2 ?hdx2 ?hux2 ?_; (case Bx2 => k_asm); (case Fx2 => k_asm); (case Xx2 => k_asm); (case Nx2 => k_asm); (case Tx2 => k_asm); (case hkx2 => first | exact rfl | assumption); (case pkx2 => (refine' Pk.cons ?q1x2 (Pk.cons ?q2x2 (Pk.cons ?q3x2 Pk.nil)); (case q1x2 => kbt_split); (case q2x2 => kbt_split); (case q3x2 => kbt_split))); (case a1x2 => first | assumption | (unfold Lasts4; simp; done)); (case a2x2 => omega); (case a3x2 => first | assumption | decide +kernel); (case a4x2 => first | assumption | decide +kernel); (case a5x2 => first | assumption | decide +kernel); (case a6x2 => k_all); (case a7x2 => k_all); (case a8x2 => k_ne); (case a9x2 => k_ne); (case a10x2 => k_ne); (case hdx2 => ktr_room); (case hux2 => ktr_units)); intro ta9 no9 hz9 tz9 F9 N9; (try dsimp only))
    k_steps
    rename_i lr _ q1 _ I q2
    have e1 : @Ne Nat x lr := by k_ne
    have e2 : @Ne Nat dx lr := by k_ne
    have e3 : @Ne Nat lo lr := by k_ne
    have e4 : @Ne Nat lw lr := by k_ne
    have f1 : @Ne Nat x I := by k_ne
    have f2 : @Ne Nat dx I := by k_ne
    have f3 : @Ne Nat lo I := by k_ne
    have f4 : @Ne Nat lw I := by k_ne
    have f5 : @Ne Nat lr I := by k_ne
    have oI : Off I rest := allLt_ne (by krn_off)
    have oR : Off lr rest := allLt_ne (by krn_off)
    clear q1 q2
    refine rest_cons (fun h tk it hic F N => ?_)
    k_steps
    rename_i t2 D1 _ l1 _ t3 D2 _ l2 _ lF lN
    have g1 : @Ne Nat D1 lr := by k_ne
    have g2 : @Ne Nat D2 lr := by k_ne
    have g3 : @Ne Nat D1 lw := by k_ne
    have g4 : @Ne Nat D2 lw := by k_ne
    have g5 : @Ne Nat D1 dx := by k_ne
    have g6 : @Ne Nat D2 dx := by k_ne
    have g7 : @Ne Nat D1 lo := by k_ne
    have g8 : @Ne Nat D2 lo := by k_ne
    have g9 : @Ne Nat D1 I := by k_ne
    have g10 : @Ne Nat D2 I := by k_ne
    clear l1 l2
    refine turn_out lF lN (by first | kbt_split | fail) ?off ?mem (rest_nil fun h tk F N => ?_)
    case off => first | k_all | fail
    case mem => first | k_mem | fail
    k_steps
    rename_i t4 D3 _ l3 _ _ _
    ((first | unfold Stop | unfold Stop2); k_dflt (refine' does_use ?Bx3 ?Fx3 ?Xx3 ?Nx3 ?Tx3 ?hkx3 (later_spec ?a1x3 ?a2x3 ?a3x3 ?a4x3 ?a5x3 ?a6x3) ?pkx3 ?hdx3 ?hux3 ?_; (case Bx3 => k_asm); (case Fx3 => k_asm); (case Xx3 => k_asm); (case Nx3 => k_asm); (case Tx3 => k_asm); (case hkx3 => first | exact rfl | assumption); (case pkx3 => (refine' Pk.cons ?q1x3 (Pk.cons ?q2x3 (Pk.cons ?q3x3 (Pk.cons ?q4x3 Pk.nil))); (case q1x3 => kbt_split); (case q2x3 => kbt_split); (case q3x3 => kbt_split); (case q4x3 => kbt_split))); (case a1x3 => omega); (case a2x3 => first | omega | exact Nat.le_of_ble_eq_true rfl); (case a3x3 => k_all); (case a4x3 => k_ne); (case a5x3 => k_ne); (case a6x3 => k_ne); (case hdx3 => ktr_room); (case hux3 => ktr_units)); intro no7 hz9 tz9 F9 N9; (try dsimp only))
    k_steps
    rename Fr _ _ _ _ => kF
    rename News _ _ _ _ => kN
    try simp only [List.concat_eq_append, List.nil_append, List.cons_append, List.toList_toArray, List.push_toArray] at kN
    refine hret [.ref D1, .ref D2, .ref D3] no7 no9 ta9 tb [(D1, rTup (Str.ofString "(") t2 (t2 + 1) (t2 + 1 + 1)), (D2, tTup t3 y), (D3, rTup (Str.ofString ")") t4 (t4 + 1) (t4 + 1 + 1))] (.cons (.raw (.head _)) (.cons (.term (.tail _ (.head _)) (hT.mono fun p hp => .tail _ (.tail _ (.tail _ hp)))) (.cons (.raw (.tail _ (.tail _ (.head _)))) .nil))) ?x1 ?x2 ?x3 _ _ kF (cb_drop (news := (x, instObj 472 dx) :: (dx, wrDict H nb xs xo an at' lo lw (lastOf (atomT (Str.ofString "$VAR"))) ta9) :: (lo, listOf (O ++ [Value.str (atomT (Str.ofString "$VAR")) tb]).toArray no9) :: (lw, listOf (W ++ [Value.ref D1, .ref D2, .ref D3].reverse).toArray no7) :: (D1, rTup (Str.ofString "(") t2 (t2 + 1) (t2 + 1 + 1)) :: (D2, tTup t3 y) :: (D3, rTup (Str.ofString ")") t4 (t4 + 1) (t4 + 1 + 1)) :: rest) kN (by first | ksw_less | fail))
    case x1 => k_all
    case x2 => k_all
    case x3 => k_all
set_option maxHeartbeats 8000000 in
theorem wf_spec {w : World} {mean : ExcName → Option Value} {mg mb : Str → Option Value} {rest : Led} {x dx xs xo an at' lo lw : Nat} {nb : Bool} {H : WrH} {la : Str} {ta : Tok} {v : Addr} {arg : Term} {ds bt bn bf bg k17 dy bp bi bq nt nf : Nat} {HS : SymH} {HO : OpsH} {vT Fs : List Value} {tf1 tf2 : Tok} {op oq : Obj} {kp : List (Int × Value)} {O W : List Value} {no n : Nat} {l : Int} {tl : Tok} {T : List Str}
    (hB : Books w xs xo ds bt bn bf bg k17 dy bp bi bq nt nf HS HO vT Fs tf1 tf2 op oq kp rest) (hs : StrsAre vT T) (hTok : T[26]? = some (Str.ofString "$VAR"))
    (hN : NotNum nb arg) (hT : TermIs rest (.ref v) (.fn arg)) (hla : la ∈ Lasts4) (hO : O.length ≤ 1000) (hW : W.length ≤ 1000) (o1 : Off dx rest) (o2 : Off lo rest) (o3 : Off lw rest) (n1 : x ≠ dx) (n2 : x ≠ lo) (n3 : dx ≠ lo) (n4 : x ≠ lw) (n5 : dx ≠ lw) (n6 : lo ≠ lw) :
    Does 12 w mean mg mb 392 [.ref x, .ref v, .int l tl, .bool true] ((x, instObj 472 dx) :: (dx, wrDict H nb xs xo an at' lo lw la ta) :: (lo, listOf O.toArray no) :: (lw, listOf W.toArray n) :: rest)
      (fun K => ∀ R n' no' ta' tb rl, TasksAre (rl ++ rest) R [.raw (Str.ofString "("), .term arg, .raw (Str.ofString ")")] → Off dx rl → Off lo rl → Off lw rl →
        K .none ((x, instObj 472 dx) :: (dx, wrDict H nb xs xo an at' lo lw (lastOf (atomT (Str.ofString "$VAR"))) ta') :: (lo, listOf (O ++ [Value.str (atomT (Str.ofString "$VAR")) tb]).toArray no') :: (lw, listOf (W ++ R.reverse).toArray n') :: (rl ++ rest))) := by
  unfold Does
  intro dp un gd cn cs fa ccd cl outer A₀ base h₀ L m s Q E B F X N Tp hk hd hu hret
  have hT0 := hT
  cases hT with
  | @fn a b y _ t u hm1 hm2 hT =>
    refine wpAny_call ?_
    k_dflt cell_enter
    k_steps
    ((first | unfold Stop | unfold Stop2); k_dflt (refine' does_use ?Bx4 ?Fx4 ?Xx4 ?Nx4 ?Tx4 ?hkx4 (isnum_spec ?a1x4 ?a2x4 ?a3x4 ?a4x4) ?pkx4 ?hdx4 ?hux4 ?_; (case Bx4 => k_asm); (case Fx4 => k_asm); (case Xx4 => k_asm); (case Nx4 => k_asm); (case Tx4 => k_asm); (case hkx4 => first | exact rfl | assumption); (case pkx4 => exact Pk.nil); (case a1x4 => k_mem); (case a2x4 => k_mem); (case a3x4 => assumption); (case a4x4 => exact TermIs.mono (by assumption) (by ksw_less)); (case hdx4 => ktr_room); (case hux4 => ktr_units)); intro  hz9 tz9 F9 N9; (try dsimp only))
    k_steps
    ((first | unfold Stop | unfold Stop2); k_dflt (refine' does_use ?Bx5 ?Fx5 ?Xx5 ?Nx5 ?Tx5 ?hkx5 (shape_spec ?a1x5 ?a2x5 ?a3x5 ?a4x5 ?a5x5) ?pkx5 ?hdx5 ?hux5 ?_; (case Bx5 => k_asm); (case Fx5 => k_asm); (case Xx5 => k_asm); (case Nx5 => k_asm); (case Tx5 => k_asm); (case hkx5 => first | exact rfl | assumption); (case pkx5 => exact Pk.nil); (case a1x5 => k_mem); (case a2x5 => k_mem); (case a3x5 => exact Books.mono (by assumption) (by ksw_less)); (case a4x5 => assumption); (case a5x5 => exact TermIs.mono (by assumption) (by ksw_less)); (case hdx5 => ktr_room); (case hux5 => ktr_units)); intro  hz9 tz9 F9 N9; (try dsimp only))
    k_steps
    ((first | unfold Stop | unfold Stop2); k_dflt (refine' does_use ?Bx6 ?Fx6 ?Xx6 ?Nx6 ?Tx6 ?hkx6 (wfun_spec ?a1x6 ?a2x6 ?a3x6 ?a4x6 ?a5x6 ?a6x6 ?a7x6 ?a8x6 ?a9x6 ?a10x6 ?a11x6 ?a12x6 ?a13x6 ?a14x6 ?a15x6 ?a16x6) ?pkx6 ?hdx6 ?hux6 ?_; (case Bx6 => k_asm); (case Fx6 => k_asm); (case Xx6 => k_asm); (case Nx6 => k_asm); (case Tx6 => k_asm); (case hkx6 => first | exact rfl | assumption); (case pkx6 => (refine' Pk.cons ?q1x6 (Pk.cons ?q2x6 (Pk.cons ?q3x6 (Pk.cons ?q4x6 Pk.nil))); (case q1x6 => kbt_split); (case q2x6 => kbt_split); (case q3x6 => kbt_split); (case q4x6 => kbt_split))); (case a1x6 => assumption); (case a2x6 => assumption); (case a3x6 => assumption); (case a4x6 => assumption); (case a5x6 => assumption); (case a6x6 => omega); (case a7x6 => omega); (case a8x6 => k_all); (case a9x6 => k_all); (case a10x6 => k_all); (case a11x6 => k_ne); (case a12x6 => k_ne); (case a13x6 => k_ne); (case a14x6 => k_ne); (case a15x6 => k_ne); (case a16x6 => k_ne); (case hdx6 => ktr_room); (case hux6 => ktr_units)); intro R9 n9 no9 ta9 tb9 rl9 hT9 x9 y9 z9 hz9 tz9 F9 N9; (try dsimp only))
    k_steps
    rename Fr _ _ _ _ => kF
    rename News _ _ _ _ => kN
    exact hret _ _ _ _ _ _ (by assumption) (by assumption) (by assumption) (by assumption) _ _ kF kN
end
example : True ∧ True := by
  try walk1
  repeat (first | trivial | constructor)
section
-- part E10

/-- what a term's writing puts out -/
noncomputable def outT (nb : Bool) (c : Tbl) : Term → List Str
  | .v k => [nameT c k]
  | .i f => [numT f]
  | .a _ => [atomT (Str.ofString "k")]
  | .fn (.i f) => if nb = true ∧ 0 ≤ f then [varT f] else [atomT (Str.ofString "$VAR"), Str.ofString "(", numT f, Str.ofString ")"]
  | .fn (.a _) => [atomT (Str.ofString "$VAR"), Str.ofString "(", atomT (Str.ofString "k"), Str.ofString ")"]
  | .fn _ => []
noncomputable def itemsOut (nb : Bool) (c : Tbl) : List Term → List Str
  | [] => []
  | T :: r => outT nb c T ++ r.flatMap fun T => Str.ofString "," :: outT nb c T
noncomputable def rend (nb : Bool) (c : Tbl) : Task → List Str
  | .raw s => [s]
  | .term T => outT nb c T
  | .lst Ts => Str.ofString "[" :: (itemsOut nb c Ts ++ [Str.ofString "]"])
noncomputable def rendS (nb : Bool) (c : Tbl) (S : List Task) : List Str := S.flatMap (rend nb c)
theorem rend_tasks (nb : Bool) (c : Tbl) (Ts : List Term) : rendS nb c (tasksOf Ts) = itemsOut nb c Ts := by
  cases Ts with
  | nil => rfl
  | cons T r =>
    unfold rendS tasksOf itemsOut
    rw [List.flatMap_cons]
    congr 1
    induction r with
    | nil => rfl
    | cons T r ih => rw [List.flatMap_cons, List.flatMap_append, ih, List.flatMap_cons]; simp [rend]
/-- what the law builds -/
inductive OkA (Tx : List Str) : Term → Prop
  | i {f : Int} : f ∈ Nums → OkA Tx (.i f)
  | a {n : Int} : 0 ≤ n → n < 100000 → Tx[n.toNat]? = some (Str.ofString "k") → OkA Tx (.a n)
inductive OkT (Tx : List Str) : Term → Prop
  | v {k : Int} : 0 ≤ k → k < 4 → OkT Tx (.v k)
  | arg {T : Term} : OkA Tx T → OkT Tx T
  | fi {f : Int} : f ∈ [(0 : Int), 25, 26, 27, 700, -1] → OkT Tx (.fn (.i f))
  | fa {n : Int} : OkA Tx (.a n) → OkT Tx (.fn (.a n))
inductive OkS (Tx : List Str) : Str → List Task → Prop
  | nil {la : Str} : OkS Tx la []
  | raw {la s : Str} {S : List Task} : 1 ≤ s.length → s.length ≤ 20 → OkS Tx (lastOf s) S → OkS Tx la (.raw s :: S)
  | term {la : Str} {T : Term} {S : List Task} : la ∈ Lasts4 → OkT Tx T → (∀ la', OkS Tx la' S) → OkS Tx la (.term T :: S)
  | lst {la : Str} {T : Term} {Ts : List Term} {S : List Task} : la ∈ Lasts4 → (∀ U ∈ T :: Ts, OkT Tx U) → Ts.length ≤ 50 → (∀ la', OkS Tx la' S) → OkS Tx la (.lst (T :: Ts) :: S)
noncomputable def sizeT : Term → Nat
  | .fn _ => 5
  | _ => 1
noncomputable def sizeL (Ts : List Term) : Nat := (Ts.map fun T => sizeT T + 1).sum
noncomputable def sizeK : Task → Nat
  | .raw _ => 1
  | .term T => sizeT T
  | .lst Ts => sizeL Ts + 3
noncomputable def sizeS (S : List Task) : Nat := (S.map sizeK).sum
theorem size_app (S S' : List Task) : sizeS (S ++ S') = sizeS S + sizeS S' := by unfold sizeS; rw [List.map_append, List.sum_append]
theorem size_tasks (Ts : List Term) : sizeS (tasksOf Ts) ≤ sizeL Ts := by
  cases Ts with
  | nil => exact Nat.le_refl _
  | cons T r =>
    have h : ((r.flatMap fun T => [Task.raw (Str.ofString ","), Task.term T]).map sizeK).sum = sizeL r := by
      induction r with
      | nil => rfl
      | cons U r ih =>
        rw [List.flatMap_cons, List.map_append, List.sum_append, ih]
        unfold sizeL
        simp [sizeK]; omega
    unfold tasksOf sizeS sizeL
    unfold sizeL at h
    simp only [List.map_cons, List.sum_cons, h, sizeK]; omega
theorem last2 : lastOf (Str.ofString "(") = Str.ofString "(" := by decide +kernel
theorem last3 : lastOf (Str.ofString ",") = Str.ofString "," := by decide +kernel
theorem in1 : Str.ofString "[" ∈ Lasts4 := by unfold Lasts4; simp
theorem in2 : Str.ofString "(" ∈ Lasts4 := by unfold Lasts4; simp
theorem in3 : Str.ofString "," ∈ Lasts4 := by unfold Lasts4; simp
theorem ok_more {Tx : List Str} {S : List Task} (hS : ∀ la, OkS Tx la S) : ∀ (r : List Term), (∀ U ∈ r, OkT Tx U) → ∀ la, OkS Tx la ((r.flatMap fun T => [Task.raw (Str.ofString ","), Task.term T]) ++ (.raw (Str.ofString "]") :: S))
  | [], _, la => .raw (by decide +kernel) (by decide +kernel) (hS _)
  | U :: r, h, la => .raw (by decide +kernel) (by decide +kernel) (.term (last3 ▸ in3) (h U (.head _)) fun la' => ok_more hS r (fun V hV => h V (.tail _ hV)) la')
theorem ok_lst {Tx : List Str} {S : List Task} {T : Term} {Ts : List Term} (h : ∀ U ∈ T :: Ts, OkT Tx U) (hS : ∀ la, OkS Tx la S) : OkS Tx (Str.ofString "[") (tasksOf (T :: Ts) ++ (.raw (Str.ofString "]") :: S)) :=
  .term in1 (h T (.head _)) fun la' => ok_more hS Ts (fun V hV => h V (.tail _ hV)) la'
theorem ok_fn {Tx : List Str} {S : List Task} {T : Term} {la : Str} (h : OkT Tx T) (hS : ∀ la, OkS Tx la S) : OkS Tx la (.raw (Str.ofString "(") :: .term T :: .raw (Str.ofString ")") :: S) :=
  .raw (by decide +kernel) (by decide +kernel) (.term (last2 ▸ in2) h fun _ => .raw (by decide +kernel) (by decide +kernel) (hS _))
set_option maxHeartbeats 8000000 in
theorem wl_spec {w : World} {mean : ExcName → Option Value} {mg mb : Str → Option Value} {rest : Led} {x dx xs xo an at' lo lw : Nat} {nb : Bool} {H : WrH} {la : Str} {ta : Tok} {v : Addr} {W O : List Value} {n no : Nat} {l : Int} {tl : Tok} {T : Term} {Ts : List Term}
    (hla : la ∈ Lasts4) (hO : O.length ≤ 1000) (hW : W.length ≤ 1000) (hc : ChainIs rest (.ref v) (T :: Ts)) (hn : (T :: Ts).length ≤ 100) (o1 : Off dx rest) (o2 : Off lo rest) (o3 : Off lw rest) (n1 : x ≠ dx) (n2 : x ≠ lo) (n3 : dx ≠ lo) (n4 : x ≠ lw) (n5 : dx ≠ lw) (n6 : lo ≠ lw) :
    Does 12 w mean mg mb 392 [.ref x, .ref v, .int l tl, .bool true] ((x, instObj 472 dx) :: (dx, wrDict H nb xs xo an at' lo lw la ta) :: (lo, listOf O.toArray no) :: (lw, listOf W.toArray n) :: rest)
      (fun K => ∀ R n' no' ta' tb rl, TasksAre (rl ++ rest) R (tasksOf (T :: Ts) ++ [.raw (Str.ofString "]")]) → Off dx rl → Off lo rl → Off lw rl →
        K .none ((x, instObj 472 dx) :: (dx, wrDict H nb xs xo an at' lo lw (Str.ofString "[") ta') :: (lo, listOf (O ++ [Value.str (Str.ofString "[") tb]).toArray no') :: (lw, listOf (W ++ R.reverse).toArray n') :: (rl ++ rest))) := by
  unfold Does
  intro dp un gd cn cs fa ccd cl outer A₀ base h₀ L m s Q E B F X N Tp hk hd hu hret
  have hc0 := hc
  cases hc with
  | cons hm1 hm2 hT hc =>
    refine wpAny_call ?_
    k_dflt cell_enter
    k_steps
    ((first | unfold Stop | unfold Stop2); k_dflt (refine' does_use ?Bx1 ?Fx1 ?Xx1 ?Nx1 ?Tx1 ?hkx1 (wlist_spec ?a1x1 ?a2x1 ?a3x1 ?a4x1 ?a5x1 ?a6x1 ?a7x1 ?a8x1 ?a9x1 ?a10x1 ?a11x1 ?a12x1 ?a13x1 ?a14x1 ?a15x1) ?pkx1 ?hdx1 ?hux1 ?_; (case Bx1 => k_asm); (case Fx1 => k_asm); (case Xx1 => k_asm); (case Nx1 => k_asm); (case Tx1 => k_asm); (case hkx1 => first | exact rfl | assumption); (case pkx1 => (refine' Pk.cons ?q1x1 (Pk.cons ?q2x1 (Pk.cons ?q3x1 (Pk.cons ?q4x1 Pk.nil))); (case q1x1 => kbt_split); (case q2x1 => kbt_split); (case q3x1 => kbt_split); (case q4x1 => kbt_split))); (case a1x1 => assumption); (case a2x1 => omega); (case a3x1 => omega); (case a4x1 => assumption); (case a5x1 => exact sub3); (case a6x1 => omega); (case a7x1 => k_all); (case a8x1 => k_all); (case a9x1 => k_all); (case a10x1 => k_ne); (case a11x1 => k_ne); (case a12x1 => k_ne); (case a13x1 => k_ne); (case a14x1 => k_ne); (case a15x1 => k_ne); (case hdx1 => ktr_room); (case hux1 => ktr_units)); intro R9 n9 no9 ta9 tb9 rl9 hT9 x9 y9 z9 hz9 tz9 F9 N9; (try dsimp only))
    k_steps
    rename Fr _ _ _ _ => kF
    rename News _ _ _ _ => kN
    exact hret _ _ _ _ _ _ (by assumption) (by assumption) (by assumption) (by assumption) _ _ kF kN
end
example : True ∧ True := by
  try walk1
  repeat (first | trivial | constructor)
section
-- part E11a

theorem size_pos (t : Task) : 1 ≤ sizeK t := by
  cases t with
  | raw s => exact Nat.le_refl _
  | term T => cases T <;> simp [sizeK, sizeT]
  | lst Ts => simp only [sizeK]; omega
theorem len_size : ∀ S : List Task, S.length ≤ sizeS S
  | [] => Nat.le_refl _
  | t :: S => by
    have h1 := len_size S
    have h2 := size_pos t
    unfold sizeS at *
    simp only [List.map_cons, List.sum_cons, List.length_cons]
    omega
theorem rendS_cons (nb : Bool) (c : Tbl) (t : Task) (S : List Task) : rendS nb c (t :: S) = rend nb c t ++ rendS nb c S := by unfold rendS; rw [List.flatMap_cons]
theorem rendS_lst (nb : Bool) (c : Tbl) (Ts : List Term) (S : List Task) : Str.ofString "[" :: rendS nb c (tasksOf Ts ++ [.raw (Str.ofString "]")] ++ S) = rendS nb c (.lst Ts :: S) := by
  rw [rendS_cons]
  have e := rend_tasks nb c Ts
  unfold rendS at *
  rw [List.flatMap_append, List.flatMap_append, e]
  simp [rend]
theorem size_cons (t : Task) (S : List Task) : sizeS (t :: S) = sizeK t + sizeS S := by unfold sizeS; simp
theorem numT_len {f : Int} (h : f ∈ Nums) : 1 ≤ (numT f).length ∧ (numT f).length ≤ 20 := by
  unfold Nums at h
  simp only [List.mem_cons, List.not_mem_nil, or_false] at h
  rcases h with rfl | rfl | rfl | rfl | rfl | rfl | rfl <;> decide +kernel
theorem figs_nums {f : Int} (h : f ∈ [(0 : Int), 25, 26, 27, 700, -1]) : f ∈ Nums := by
  simp only [List.mem_cons, List.not_mem_nil, or_false] at h
  rcases h with rfl | rfl | rfl | rfl | rfl | rfl <;> decide
theorem figs_pos {f : Int} (h : f ∈ [(0 : Int), 25, 26, 27, 700, -1]) (h0 : 0 ≤ f) : f ∈ [(0 : Int), 25, 26, 27, 700] := by
  simp only [List.mem_cons, List.not_mem_nil, or_false] at h
  rcases h with rfl | rfl | rfl | rfl | rfl | rfl <;> first | decide | omega
theorem varT_len {f : Int} (h : f ∈ [(0 : Int), 25, 26, 27, 700]) : 1 ≤ (varT f).length ∧ (varT f).length ≤ 20 := by
  simp only [List.mem_cons, List.not_mem_nil, or_false] at h
  rcases h with rfl | rfl | rfl | rfl | rfl <;> decide +kernel
theorem outT_ok {nb : Bool} {c : Tbl} {Tx : List Str} {T : Term} (hs : Short (vals c)) (hl : Long (vals c)) (h : OkT Tx T) : (outT nb c T).length ≤ 4 ∧ ∀ s ∈ outT nb c T, s.length ≤ 20 := by
  have four : ∀ t : Str, t.length ≤ 20 → (∀ s ∈ [atomT (Str.ofString "$VAR"), Str.ofString "(", t, Str.ofString ")"], s.length ≤ 20) := by
    intro t ht s hs
    simp only [List.mem_cons, List.not_mem_nil, or_false] at hs
    rcases hs with rfl | rfl | rfl | rfl
    · decide +kernel
    · decide +kernel
    · exact ht
    · decide +kernel
  have one : ∀ t : Str, t.length ≤ 20 → ∀ s ∈ [t], s.length ≤ 20 := fun t ht s hs => by rw [List.mem_singleton.mp hs]; exact ht
  cases h with
  | v h0 h3 => exact ⟨Nat.le_of_ble_eq_true rfl, one _ (name_len hs hl h0 h3).2⟩
  | arg h =>
    cases h with
    | i hf => exact ⟨Nat.le_of_ble_eq_true rfl, one _ (numT_len hf).2⟩
    | a _ _ _ => exact ⟨Nat.le_of_ble_eq_true rfl, one _ (by decide +kernel)⟩
  | @fi f hf =>
    show (if nb = true ∧ 0 ≤ f then [varT f] else [atomT (Str.ofString "$VAR"), Str.ofString "(", numT f, Str.ofString ")"]).length ≤ 4 ∧ ∀ s ∈ (if nb = true ∧ 0 ≤ f then [varT f] else [atomT (Str.ofString "$VAR"), Str.ofString "(", numT f, Str.ofString ")"]), s.length ≤ 20
    split
    · rename_i hc; exact ⟨by simp, one _ (varT_len (figs_pos hf hc.2)).2⟩
    · exact ⟨by simp, four _ (numT_len (figs_nums hf)).2⟩
  | fa _ => exact ⟨Nat.le_of_ble_eq_true rfl, four _ (by decide +kernel)⟩
theorem more_ok {nb : Bool} {c : Tbl} {Tx : List Str} (hs : Short (vals c)) (hl : Long (vals c)) : ∀ r : List Term, (∀ U ∈ r, OkT Tx U) → (r.flatMap fun T => Str.ofString "," :: outT nb c T).length ≤ 5 * r.length ∧ ∀ s ∈ (r.flatMap fun T => Str.ofString "," :: outT nb c T), s.length ≤ 20
  | [], _ => ⟨by simp, fun s h => by simp at h⟩
  | U :: r, h => by
    obtain ⟨a1, a2⟩ := more_ok hs hl r fun V hV => h V (.tail _ hV)
    obtain ⟨b1, b2⟩ := outT_ok (nb := nb) hs hl (h U (.head _))
    rw [List.flatMap_cons]
    refine ⟨?_, fun s hs => ?_⟩
    · rw [List.length_append]
      exact Nat.le_trans (Nat.add_le_add (show (Str.ofString "," :: outT nb c U).length ≤ 5 by rw [List.length_cons]; omega) a1) (by rw [List.length_cons]; omega)
    · rcases List.mem_append.mp hs with hs | hs
      · rcases List.mem_cons.mp hs with rfl | hs
        · decide +kernel
        · exact b2 s hs
      · exact a2 s hs
theorem rend_ok {nb : Bool} {c : Tbl} {Tx : List Str} (hs : Short (vals c)) (hl : Long (vals c)) {T : Term} {Ts : List Term} (h : ∀ U ∈ T :: Ts, OkT Tx U) (hn : Ts.length ≤ 50) : (rend nb c (.lst (T :: Ts))).length ≤ 300 ∧ ∀ s ∈ rend nb c (.lst (T :: Ts)), s.length ≤ 20 := by
  obtain ⟨a1, a2⟩ := more_ok (nb := nb) hs hl Ts fun V hV => h V (.tail _ hV)
  obtain ⟨b1, b2⟩ := outT_ok (nb := nb) hs hl (h T (.head _))
  unfold rend itemsOut
  refine ⟨?_, fun s hs => ?_⟩
  · simp only [List.length_append, List.length_cons, List.length_nil]; omega
  · rcases List.mem_cons.mp hs with rfl | hs
    · decide +kernel
    · rcases List.mem_append.mp hs with hs | hs
      · rcases List.mem_append.mp hs with hs | hs
        · exact b2 s hs
        · exact a2 s hs
      · rw [List.mem_singleton.mp hs]; decide +kernel
theorem weight {l : List Str} (h : ∀ s ∈ l, s.length ≤ 20) : (l.map (·.length)).sum ≤ 20 * l.length := by
  induction l with
  | nil => exact Nat.le_refl _
  | cons t l ih =>
    have h1 := h t (.head _)
    have h2 := ih fun s hs => h s (.tail _ hs)
    simp only [List.map_cons, List.sum_cons, List.length_cons]; omega
theorem sizeL_le (Ts : List Term) : sizeL Ts ≤ 6 * Ts.length := by
  unfold sizeL
  induction Ts with
  | nil => exact Nat.le_refl _
  | cons T r ih =>
    have : sizeT T ≤ 5 := by cases T <;> simp [sizeT]
    simp only [List.map_cons, List.sum_cons, List.length_cons]; omega
end
example : True ∧ True := by
  try walk1
  repeat (first | trivial | constructor)
section
-- part E11

theorem truthy_snoc {prog : Program} {w : World} {A : Around} {E : Value → Shared → Prop} {s : Shared} {h₀ : Heap} {L l : Addr} {news : Led} {vs : List Value} {v : Value} {n : Nat} {Q : Bool → Shared → Prop} (N : News h₀ L s.heap news) (hm : (l, listOf (vs ++ [v]).toArray n) ∈ news) (hz : (vs ++ [v]).length ≤ 1000000)
    (h : ∀ tk, Q true { s with toks := tk }) : wpAny (model prog w) A (truthy (.ref l)) Q E s :=
  wpAny_truthy_list ⟨_, (N _ hm).1, rfl, n, rfl⟩ (by rw [List.size_toArray]; omega) (by
    have e : (!(vs ++ [v]).toArray.isEmpty) = true := by simp
    rw [e]; exact h _)
theorem truthy_no {prog : Program} {w : World} {A : Around} {E : Value → Shared → Prop} {s : Shared} {h₀ : Heap} {L l : Addr} {news : Led} {n : Nat} {Q : Bool → Shared → Prop} (N : News h₀ L s.heap news) (hm : (l, listOf ([] : List Value).toArray n) ∈ news)
    (h : ∀ tk, Q false { s with toks := tk }) : wpAny (model prog w) A (truthy (.ref l)) Q E s :=
  wpAny_truthy_list ⟨_, (N _ hm).1, rfl, n, rfl⟩ (by decide) (h _)
local macro_rules | `(tactic| walk_at "truthy ref") => `(tactic| (k_here; (with_reducible show wpAny _ _ (truthy (Value.ref _)) _ _ _); k_dflt (first | refine truthy_snoc (by k_asm) (by k_mem) (by simp only [List.length_append, List.length_reverse, List.length_cons, List.length_nil]; omega) (fun t9 => ?_) | refine truthy_no (by k_asm) (by k_mem) (fun t9 => ?_))))
local macro_rules | `(tactic| walk_at "call builtin:list.pop") => `(tactic| (k_here; k_dflt ((with_reducible show wpAny _ _ (call (Value.builtin _) [Value.ref _]) _ _ _); refine' kl_pop ?F ?N ?e ?U ?z ?_; (case F => k_asm); (case N => k_asm); (case U => k_upd); (case e => exact kpa_last _ _); (case z => (rw [sizeLine_eq]; (show (_ ++ [_]).length ≤ _); simp only [List.length_append, List.length_reverse, List.length_cons, List.length_nil]; omega))); kl_rest))
local macro_rules | `(tactic| walk_at "call builtin:str.join") => `(tactic| (k_here; (with_reducible show wpAny _ _ (call (Value.builtin "str.join") [Value.str _ _, Value.ref _]) _ _ _); k_dflt (refine join_listW (News.isList (by k_asm) (by k_mem)) (by assumption) (by decide +kernel) (by assumption) ?_); intro t9 k9))
local macro_rules | `(tactic| walk_at "exec While") => `(tactic| (k_here; refine whl_go ?_))
local macro_rules | `(tactic| walk_at "exec While Attribute") => `(tactic| (k_here; refine whl_go ?_))
local macro_rules | `(tactic| walk_at "WhlP") => `(tactic| (dsimp only [WhlP]))
theorem TermIs.ref {led : Led} {v : Value} {T : Term} (h : TermIs led v T) : ∃ a, v = .ref a := by cases h <;> exact ⟨_, rfl⟩
theorem ChainIs.ref {led : Led} {v : Value} {Ts : List Term} (h : ChainIs led v Ts) : ∃ a, v = .ref a := by cases h <;> exact ⟨_, rfl⟩
inductive TextJ (x dx xs xo an at' LO LW : Nat) (nb : Bool) (H : WrH) (rr : Led) (c : Tbl) (Tx : List Str) (E : List Str) (n : Nat) (m : Str → Option Value) (nx : Led) : Prop
  | mk (O : List Value) (Os : List Str) (W : List Value) (S : List Task) (la : Str) (ta : Tok) (c1 c2 : Nat) (rq : Led) : m (Str.ofString "self") = some (.ref x) → StrsAre O Os → TasksAre rq W S → OkS Tx la S → n = sizeS S → n ≤ 400 → Os ++ rendS nb c S = E → Off dx rq → Off LO rq → Off LW rq → (∀ p ∈ rr, p ∈ rq) →
      nx = (x, instObj 472 dx) :: (dx, wrDict H nb xs xo an at' LO LW la ta) :: (LO, listOf O.toArray c1) :: (LW, listOf W.reverse.toArray c2) :: rq → TextJ x dx xs xo an at' LO LW nb H rr c Tx E n m nx
set_option maxHeartbeats 4000000 in
theorem text_spec {w : World} {mean : ExcName → Option Value} {mg mb : Str → Option Value} {rr : Led} {x dx xs xo an at' lo lw : Nat} {nb : Bool} {H : WrH} {ds bt bn bf bg k17 dy bp bi bq nt nf : Nat} {HS : SymH} {HO : OpsH} {vT Fs : List Value} {tf1 tf2 : Tok} {op oq : Obj} {kp : List (Int × Value)} {la : Str} {ta tl : Tok} {v : Addr} {l : Int} {c : Tbl} {on ot : Obj} {kn : List (Int × Value)} {kt : List (Str × Value)} {Tx : List Str} {T0 : Term} {Ts0 : List Term}
    (hB : Books w xs xo ds bt bn bf bg k17 dy bp bi bq nt nf HS HO vT Fs tf1 tf2 op oq kp rr) (m3 : (an, on) ∈ rr) (m4 : (at', ot) ∈ rr) (hs : Short (vals c)) (hl : Long (vals c)) (hdn : on.IsDictOf (PySem.intKind P0 w) kn) (hfn : FlatPairs PyData.int kn (tblD c)) (hln : (an == sysModules) = false) (hdt : ot.IsDictOf (PySem.strKind P0 w) kt) (hft : FlatPairs PyData.str kt (takD (vals c))) (hlt : (at' == sysModules) = false)
    (hsT : StrsAre vT Tx) (hTok : Tx[26]? = some (Str.ofString "$VAR")) (hc : ChainIs rr (.ref v) (T0 :: Ts0)) (hok : ∀ U ∈ T0 :: Ts0, OkT Tx U) (hlen : Ts0.length ≤ 50) (o1 : Off dx rr) (n1 : x ≠ dx) :
    Does 16 w mean mg mb 357 [.ref x, .ref v, .int 1201 tl] ((x, instObj 472 dx) :: (dx, wrDict H nb xs xo an at' lo lw la ta) :: rr)
      (fun K => ∀ tk, K (.str (Txt.join (Str.ofString "") (rend nb c (.lst (T0 :: Ts0)))) tk) rr) := by
  unfold Does
  intro dp un gd cn cs fa ccd cl outer A₀ base h₀ L m s Q E B F X N Tp hk hd hu hret
  dsimp only [wrDict] at N
  refine wpAny_call ?_
  k_dflt fold_lay
  k_steps
  obtain ⟨hfl, hfs⟩ := rend_ok (nb := nb) hs hl hok hlen
  have hfw := weight hfs
  have hsz0 := sizeL_le (T0 :: Ts0)
  rw [List.length_cons] at hsz0
  rename_i t1 LO _ q1 _ t2 _ _ D _ q2 LW _ q3 _ lF lN
  have e1 : @Ne Nat x LO := by k_ne
  have e2 : @Ne Nat dx LO := by k_ne
  have e3 : @Ne Nat x LW := by k_ne
  have e4 : @Ne Nat dx LW := by k_ne
  have e5 : @Ne Nat LO LW := by k_ne
  have e6 := e2.symm
  have e7 := e4.symm
  have e8 := e5.symm
  have e9 : @Ne Nat D dx := by k_ne
  have e10 : @Ne Nat D LO := by k_ne
  have e11 : @Ne Nat D LW := by k_ne
  have r1 : Off LO rr := allLt_ne (by krn_off)
  have r2 : Off LW rr := allLt_ne (by krn_off)
  clear q1 q2 q3
  refine whl_use (TextJ x dx xs xo an at' LO LW nb H rr c Tx (rend nb c (.lst (T0 :: Ts0)))) (sizeS [.lst (T0 :: Ts0)]) ((x, instObj 472 dx) :: (dx, wrDict H nb xs xo an at' LO LW (Str.ofString "") t2) :: (LO, listOf ([] : List Value).toArray 0) :: (LW, listOf [Value.ref D].toArray 0) :: (D, tupO [.str (Str.ofString "term") (t2 + 1 + 2 + 2), .ref v, .int 1201 tl, .bool true]) :: rr) lF lN (by first | passes_own | with_unfolding_all passes_own) (by first | ksw_less | fail)
    (.mk [] [] [.ref D] [.lst (T0 :: Ts0)] (Str.ofString "") _ 0 0 _ rfl .nil (.cons (.lst (.head _) (hc.mono fun p hp => .tail _ hp)) .nil) (.lst (by unfold Lasts4; simp) hok hlen fun _ => .nil) rfl ?init (by unfold rendS; simp) (off1 e9 o1) (off1 e10 r1) (off1 e11 r2) (fun p hp => .tail _ hp) rfl) ?turn
  case init => rw [size_cons]; simp only [sizeK]; unfold sizeS; simp; omega
  case turn =>
    clear lF lN
    intro n m nx h tk hJ F N
    obtain ⟨O, Os, W, S, la, ta, c1, c2, rq, hm1, hO, hT, hS, hn, hn4, hfin, q1, q2, q3, hrq, hnx⟩ := hJ
    rw [name_form hm1] at F
    subst hnx
    have hBq := hB.mono hrq
    have a3 := hrq _ m3
    have a4 := hrq _ m4
    have hOl : O.length ≤ 300 := by
      have := congrArg List.length hfin
      rw [List.length_append] at this
      rw [hO.length]; omega
    cases hT with
    | nil =>
      have hfin' : Os = rend nb c (.lst (T0 :: Ts0)) := by rw [← hfin]; unfold rendS; simp
      have hw : (Os.map (·.length)).sum + Os.length ≤ 1048576 := by rw [hfin']; omega
      k_steps
      rename Fr _ _ _ _ => kF
      rename News _ _ _ _ => kN
      rw [← hfin'] at hret
      exact hret _ _ _ kF (cb_drop kN fun p hp => by have hp := hrq p hp; (repeat (first | exact hp | apply List.Mem.tail)))
    | @cons v t W S hT1 hT2 =>
      rw [List.reverse_cons] at N
      have hWl := hT2.length
      have hWz := len_size _ |> Nat.le_trans (Nat.le_of_eq hWl)
      have hns := hn
      rw [size_cons] at hns
      have hW4 : W.length ≤ 400 := by omega
      cases hS with
      | @raw _ sx _ sh1 sh2 hS =>
        cases hT1 with
        | raw hm =>
          have sh3 := str_ne sh1
          have sh4 : sx.length ≤ 1000 := by omega
          (k_steps; (repeat' (unfold Stop; first | (k_dflt (refine' does_use ?Bx1 ?Fx1 ?Xx1 ?Nx1 ?Tx1 ?hkx1 (raw_spec ?a1x1 ?a2x1 ?a3x1 ?a4x1 ?a5x1 ?a6x1 ?a7x1 ?a8x1 ?a9x1) ?pkx1 ?hdx1 ?hux1 ?_; (case Bx1 => k_asm); (case Fx1 => k_asm); (case Xx1 => k_asm); (case Nx1 => k_asm); (case Tx1 => k_asm); (case hkx1 => first | exact rfl | assumption); (case pkx1 => (refine' Pk.cons ?q1x1 (Pk.cons ?q2x1 (Pk.cons ?q3x1 Pk.nil)); (case q1x1 => kbt_split); (case q2x1 => kbt_split); (case q3x1 => kbt_split))); (case a1x1 => omega); (case a2x1 => first | assumption | decide +kernel); (case a3x1 => first | assumption | decide +kernel); (case a4x1 => first | assumption | decide +kernel); (case a5x1 => k_all); (case a6x1 => k_all); (case a7x1 => k_ne); (case a8x1 => k_ne); (case a9x1 => k_ne); (case hdx1 => ktr_room); (case hux1 => ktr_units)); intro _ _ _ _ _ _; (try dsimp only); (try k_steps)))))
          rename Fr _ _ _ _ => lF
          rename News _ _ _ _ => lN
          exact whl_stop _ lF lN sub3 (.mk (sizeS S) (by rw [hn, size_cons]; have := size_pos (.raw sx); omega) (.mk (O ++ [_]) (Os ++ [sx]) W S (lastOf sx) _ _ _ rq rfl (PyProof.Rows.StrsAre.append' hO (.cons _ _ .nil)) hT2 hS rfl (by omega) (by rw [← hfin, rendS_cons]; simp [rend, outT]) q1 q2 q3 hrq rfl))
      | @term _ T _ hla hok hS =>
        cases hT1 with
        | term hm hTm =>
          k_steps
          cases hok with
          | @v kv hk0 hk3 =>
            cases hTm with
            | v hm2 =>
              have hTv : TermIs rq _ (.v kv) := .v hm2
              ((first | unfold Stop | unfold Stop2); k_dflt (refine' does_use ?Bx2 ?Fx2 ?Xx2 ?Nx2 ?Tx2 ?hkx2 (wv_spec ?a1x2 ?a2x2 ?a3x2 ?a4x2 ?a5x2 ?a6x2 ?a7x2 ?a8x2 ?a9x2 ?a10x2 ?a11x2 ?a12x2 ?a13x2 ?a14x2 ?a15x2 ?a16x2 ?a17x2 ?a18x2 ?a19x2 ?a20x2) ?pkx2 ?hdx2 ?hux2 ?_; (case Bx2 => k_asm); (case Fx2 => k_asm); (case Xx2 => k_asm); (case Nx2 => k_asm); (case Tx2 => k_asm); (case hkx2 => first | exact rfl | assumption); (case pkx2 => (refine' Pk.cons ?q1x2 (Pk.cons ?q2x2 (Pk.cons ?q3x2 Pk.nil)); (case q1x2 => kbt_split); (case q2x2 => kbt_split); (case q3x2 => kbt_split))); (case a1x2 => assumption); (case a2x2 => assumption); (case a3x2 => k_asm); (case a4x2 => assumption); (case a5x2 => assumption); (case a6x2 => k_asm); (case a7x2 => assumption); (case a8x2 => assumption); (case a9x2 => assumption); (case a10x2 => assumption); (case a11x2 => assumption); (case a12x2 => omega); (case a13x2 => exact TermIs.mono (by assumption) sub2x); (case a14x2 => exact .tail _ a3); (case a15x2 => exact .tail _ a4); (case a16x2 => k_all); (case a17x2 => k_all); (case a18x2 => k_ne); (case a19x2 => k_ne); (case a20x2 => k_ne); (case hdx2 => ktr_room); (case hux2 => ktr_units)); intro no9 ta9 tb9 hz9 tz9 F9 N9; (try dsimp only))
              k_steps
              rename Fr _ _ _ _ => lF
              rename News _ _ _ _ => lN
              exact whl_stop ((x, instObj 472 dx) :: (dx, wrDict H nb xs xo an at' LO LW (lastOf (nameT c kv)) ta9) :: (LO, listOf (O ++ [Value.str (nameT c kv) tb9]).toArray no9) :: (LW, listOf (W).reverse.toArray _) :: rq) lF lN (by first | ksw_less | fail) (.mk (sizeS S) (by have := size_pos (.term (.v kv)); omega) (.mk (O ++ [_]) (Os ++ [nameT c kv]) W S (lastOf (nameT c kv)) _ _ _ rq rfl (PyProof.Rows.StrsAre.append' hO (.cons _ _ .nil)) hT2 (hS _) rfl (by omega) (by rw [← hfin, rendS_cons]; simp [rend, outT]) q1 q2 q3 hrq rfl))
          | arg hA =>
            cases hA with
            | @i f hf =>
              cases hTm with
              | i hm2 =>
                have hTv : TermIs rq _ (.i f) := .i hm2
                ((first | unfold Stop | unfold Stop2); k_dflt (refine' does_use ?Bx3 ?Fx3 ?Xx3 ?Nx3 ?Tx3 ?hkx3 (wi_spec ?a1x3 ?a2x3 ?a3x3 ?a4x3 ?a5x3 ?a6x3 ?a7x3 ?a8x3 ?a9x3) ?pkx3 ?hdx3 ?hux3 ?_; (case Bx3 => k_asm); (case Fx3 => k_asm); (case Xx3 => k_asm); (case Nx3 => k_asm); (case Tx3 => k_asm); (case hkx3 => first | exact rfl | assumption); (case pkx3 => (refine' Pk.cons ?q1x3 (Pk.cons ?q2x3 (Pk.cons ?q3x3 Pk.nil)); (case q1x3 => kbt_split); (case q2x3 => kbt_split); (case q3x3 => kbt_split))); (case a1x3 => assumption); (case a2x3 => assumption); (case a3x3 => omega); (case a4x3 => exact TermIs.mono (by assumption) sub2x); (case a5x3 => k_all); (case a6x3 => k_all); (case a7x3 => k_ne); (case a8x3 => k_ne); (case a9x3 => k_ne); (case hdx3 => ktr_room); (case hux3 => ktr_units)); intro no9 ta9 tb9 hz9 tz9 F9 N9; (try dsimp only))
                k_steps
                rename Fr _ _ _ _ => lF
                rename News _ _ _ _ => lN
                exact whl_stop ((x, instObj 472 dx) :: (dx, wrDict H nb xs xo an at' LO LW (lastOf (numT f)) ta9) :: (LO, listOf (O ++ [Value.str (numT f) tb9]).toArray no9) :: (LW, listOf (W).reverse.toArray _) :: rq) lF lN (by first | ksw_less | fail) (.mk (sizeS S) (by have := size_pos (.term (.i f)); omega) (.mk (O ++ [_]) (Os ++ [numT f]) W S (lastOf (numT f)) _ _ _ rq rfl (PyProof.Rows.StrsAre.append' hO (.cons _ _ .nil)) hT2 (hS _) rfl (by omega) (by rw [← hfin, rendS_cons]; simp [rend, outT]) q1 q2 q3 hrq rfl))
            | @a nn hn0 hn1 hTn =>
              cases hTm with
              | a hm2 =>
                have hTv : TermIs rq _ (.a nn) := .a hm2
                obtain ⟨b1, b2, b3, _⟩ := hBq
                ((first | unfold Stop | unfold Stop2); k_dflt (refine' does_use ?Bx4 ?Fx4 ?Xx4 ?Nx4 ?Tx4 ?hkx4 (wa_spec ?a1x4 ?a2x4 ?a3x4 ?a4x4 ?a5x4 ?a6x4 ?a7x4 ?a8x4 ?a9x4 ?a10x4 ?a11x4 ?a12x4 ?a13x4 ?a14x4 ?a15x4) ?pkx4 ?hdx4 ?hux4 ?_; (case Bx4 => k_asm); (case Fx4 => k_asm); (case Xx4 => k_asm); (case Nx4 => k_asm); (case Tx4 => k_asm); (case hkx4 => first | exact rfl | assumption); (case pkx4 => (refine' Pk.cons ?q1x4 (Pk.cons ?q2x4 (Pk.cons ?q3x4 Pk.nil)); (case q1x4 => kbt_split); (case q2x4 => kbt_split); (case q3x4 => kbt_split))); (case a1x4 => exact .tail _ b1); (case a2x4 => exact .tail _ b2); (case a3x4 => exact .tail _ b3); (case a4x4 => assumption); (case a5x4 => assumption); (case a6x4 => assumption); (case a7x4 => assumption); (case a8x4 => assumption); (case a9x4 => omega); (case a10x4 => exact TermIs.mono (by assumption) sub2x); (case a11x4 => k_all); (case a12x4 => k_all); (case a13x4 => k_ne); (case a14x4 => k_ne); (case a15x4 => k_ne); (case hdx4 => ktr_room); (case hux4 => ktr_units)); intro no9 ta9 tb9 hz9 tz9 F9 N9; (try dsimp only))
                k_steps
                rename Fr _ _ _ _ => lF
                rename News _ _ _ _ => lN
                exact whl_stop ((x, instObj 472 dx) :: (dx, wrDict H nb xs xo an at' LO LW (lastOf (atomT (Str.ofString "k"))) ta9) :: (LO, listOf (O ++ [Value.str (atomT (Str.ofString "k")) tb9]).toArray no9) :: (LW, listOf (W).reverse.toArray _) :: rq) lF lN (by first | ksw_less | fail) (.mk (sizeS S) (by have := size_pos (.term (.a nn)); omega) (.mk (O ++ [_]) (Os ++ [atomT (Str.ofString "k")]) W S (lastOf (atomT (Str.ofString "k"))) _ _ _ rq rfl (PyProof.Rows.StrsAre.append' hO (.cons _ _ .nil)) hT2 (hS _) rfl (by omega) (by rw [← hfin, rendS_cons]; simp [rend, outT]) q1 q2 q3 hrq rfl))
          | @fi f hf =>
            obtain ⟨va, rfl⟩ := hTm.ref
            have hTv := hTm
            by_cases hcn : nb = true ∧ 0 ≤ f
            · have hfp := figs_pos hf hcn.2
              have hnb := hcn.1
              ((first | unfold Stop | unfold Stop2); k_dflt (refine' does_use ?Bx5 ?Fx5 ?Xx5 ?Nx5 ?Tx5 ?hkx5 (wn_spec ?a1x5 ?a2x5 ?a3x5 ?a4x5 ?a5x5 ?a6x5 ?a7x5 ?a8x5 ?a9x5 ?a10x5) ?pkx5 ?hdx5 ?hux5 ?_; (case Bx5 => k_asm); (case Fx5 => k_asm); (case Xx5 => k_asm); (case Nx5 => k_asm); (case Tx5 => k_asm); (case hkx5 => first | exact rfl | assumption); (case pkx5 => (refine' Pk.cons ?q1x5 (Pk.cons ?q2x5 (Pk.cons ?q3x5 Pk.nil)); (case q1x5 => kbt_split); (case q2x5 => kbt_split); (case q3x5 => kbt_split))); (case a1x5 => assumption); (case a2x5 => assumption); (case a3x5 => assumption); (case a4x5 => omega); (case a5x5 => exact TermIs.mono (by assumption) sub2x); (case a6x5 => k_all); (case a7x5 => k_all); (case a8x5 => k_ne); (case a9x5 => k_ne); (case a10x5 => k_ne); (case hdx5 => ktr_room); (case hux5 => ktr_units)); intro no9 ta9 tb9 hz9 tz9 F9 N9; (try dsimp only))
              k_steps
              rename Fr _ _ _ _ => lF
              rename News _ _ _ _ => lN
              exact whl_stop ((x, instObj 472 dx) :: (dx, wrDict H nb xs xo an at' LO LW (lastOf (varT f)) ta9) :: (LO, listOf (O ++ [Value.str (varT f) tb9]).toArray no9) :: (LW, listOf (W).reverse.toArray _) :: rq) lF lN (by first | ksw_less | fail) (.mk (sizeS S) (by have := size_pos (.term (.fn (.i f))); omega) (.mk (O ++ [_]) (Os ++ [varT f]) W S (lastOf (varT f)) _ _ _ rq rfl (PyProof.Rows.StrsAre.append' hO (.cons _ _ .nil)) hT2 (hS _) rfl (by omega) (by rw [← hfin, rendS_cons]; simp [rend, outT, hcn]) q1 q2 q3 hrq rfl))
            · have hNN : NotNum nb (.i f) := by
                cases hb : nb with
                | false => exact .inl rfl
                | true => exact .inr (.inl ⟨f, rfl, by have : ¬ 0 ≤ f := fun h => hcn ⟨hb, h⟩; omega⟩)
              ((first | unfold Stop | unfold Stop2); k_dflt (refine' does_use ?Bx6 ?Fx6 ?Xx6 ?Nx6 ?Tx6 ?hkx6 (wf_spec ?a1x6 ?a2x6 ?a3x6 ?a4x6 ?a5x6 ?a6x6 ?a7x6 ?a8x6 ?a9x6 ?a10x6 ?a11x6 ?a12x6 ?a13x6 ?a14x6 ?a15x6 ?a16x6 ?a17x6) ?pkx6 ?hdx6 ?hux6 ?_; (case Bx6 => k_asm); (case Fx6 => k_asm); (case Xx6 => k_asm); (case Nx6 => k_asm); (case Tx6 => k_asm); (case hkx6 => first | exact rfl | assumption); (case pkx6 => (refine' Pk.cons ?q1x6 (Pk.cons ?q2x6 (Pk.cons ?q3x6 (Pk.cons ?q4x6 Pk.nil))); (case q1x6 => kbt_split); (case q2x6 => kbt_split); (case q3x6 => kbt_split); (case q4x6 => kbt_split))); (case a1x6 => assumption); (case a2x6 => assumption); (case a3x6 => assumption); (case a4x6 => assumption); (case a5x6 => assumption); (case a6x6 => assumption); (case a7x6 => omega); (case a8x6 => (simp only [List.length_reverse]; omega)); (case a9x6 => assumption); (case a10x6 => assumption); (case a11x6 => assumption); (case a12x6 => assumption); (case a13x6 => assumption); (case a14x6 => assumption); (case a15x6 => assumption); (case a16x6 => assumption); (case a17x6 => assumption); (case hdx6 => ktr_room); (case hux6 => ktr_units)); intro R9 n9 no9 ta9 tb9 rl9 hT9 z1 z2 z3 hz9 tz9 F9 N9; (try dsimp only))
              k_steps
              rename Fr _ _ _ _ => lF
              rename News _ _ _ _ => lN
              rw [← List.reverse_append] at lN
              have h7 : sizeS [Task.raw (Str.ofString "("), .term (.i f), .raw (Str.ofString ")")] = 3 := rfl
              exact whl_stop _ lF lN sub3 (.mk (sizeS ([.raw (Str.ofString "("), .term (.i f), .raw (Str.ofString ")")] ++ S)) (by rw [size_app]; simp only [sizeK, sizeT] at hns; omega) (.mk (O ++ [_]) (Os ++ [atomT (Str.ofString "$VAR")]) (R9 ++ W) ([.raw (Str.ofString "("), .term (.i f), .raw (Str.ofString ")")] ++ S) (lastOf (atomT (Str.ofString "$VAR"))) _ _ _ (rl9 ++ rq) rfl (PyProof.Rows.StrsAre.append' hO (.cons _ _ .nil)) (TasksAre.append hT9 (hT2.mono app_right)) (ok_fn (.arg (.i (figs_nums hf))) hS) rfl (by rw [size_app]; simp only [sizeK, sizeT] at hns; omega) (by rw [← hfin, rendS_cons]; simp [rend, outT, hcn, rendS]) (offApp z1 q1) (offApp z2 q2) (offApp z3 q3) (fun p hp => List.mem_append_right _ (hrq p hp)) rfl))
          | @fa nn hA =>
            obtain ⟨va, rfl⟩ := hTm.ref
            have hTv := hTm
            have hNN : NotNum nb (.a nn) := .inr (.inr ⟨nn, rfl⟩)
            ((first | unfold Stop | unfold Stop2); k_dflt (refine' does_use ?Bx7 ?Fx7 ?Xx7 ?Nx7 ?Tx7 ?hkx7 (wf_spec ?a1x7 ?a2x7 ?a3x7 ?a4x7 ?a5x7 ?a6x7 ?a7x7 ?a8x7 ?a9x7 ?a10x7 ?a11x7 ?a12x7 ?a13x7 ?a14x7 ?a15x7 ?a16x7 ?a17x7) ?pkx7 ?hdx7 ?hux7 ?_; (case Bx7 => k_asm); (case Fx7 => k_asm); (case Xx7 => k_asm); (case Nx7 => k_asm); (case Tx7 => k_asm); (case hkx7 => first | exact rfl | assumption); (case pkx7 => (refine' Pk.cons ?q1x7 (Pk.cons ?q2x7 (Pk.cons ?q3x7 (Pk.cons ?q4x7 Pk.nil))); (case q1x7 => kbt_split); (case q2x7 => kbt_split); (case q3x7 => kbt_split); (case q4x7 => kbt_split))); (case a1x7 => assumption); (case a2x7 => assumption); (case a3x7 => assumption); (case a4x7 => assumption); (case a5x7 => assumption); (case a6x7 => assumption); (case a7x7 => omega); (case a8x7 => (simp only [List.length_reverse]; omega)); (case a9x7 => assumption); (case a10x7 => assumption); (case a11x7 => assumption); (case a12x7 => assumption); (case a13x7 => assumption); (case a14x7 => assumption); (case a15x7 => assumption); (case a16x7 => assumption); (case a17x7 => assumption); (case hdx7 => ktr_room); (case hux7 => ktr_units)); intro R9 n9 no9 ta9 tb9 rl9 hT9 z1 z2 z3 hz9 tz9 F9 N9; (try dsimp only))
            k_steps
            rename Fr _ _ _ _ => lF
            rename News _ _ _ _ => lN
            rw [← List.reverse_append] at lN
            have h7 : sizeS [Task.raw (Str.ofString "("), .term (.a nn), .raw (Str.ofString ")")] = 3 := rfl
            exact whl_stop _ lF lN sub3 (.mk (sizeS ([.raw (Str.ofString "("), .term (.a nn), .raw (Str.ofString ")")] ++ S)) (by rw [size_app]; simp only [sizeK, sizeT] at hns; omega) (.mk (O ++ [_]) (Os ++ [atomT (Str.ofString "$VAR")]) (R9 ++ W) ([.raw (Str.ofString "("), .term (.a nn), .raw (Str.ofString ")")] ++ S) (lastOf (atomT (Str.ofString "$VAR"))) _ _ _ (rl9 ++ rq) rfl (PyProof.Rows.StrsAre.append' hO (.cons _ _ .nil)) (TasksAre.append hT9 (hT2.mono app_right)) (ok_fn (.arg hA) hS) rfl (by rw [size_app]; simp only [sizeK, sizeT] at hns; omega) (by rw [← hfin, rendS_cons]; simp [rend, outT, rendS]) (offApp z1 q1) (offApp z2 q2) (offApp z3 q3) (fun p hp => List.mem_append_right _ (hrq p hp)) rfl))
      | @lst _ T Ts _ hla hok hlen hS =>
        cases hT1 with
        | lst hm hch =>
          obtain ⟨va, rfl⟩ := hch.ref
          k_steps
          ((first | unfold Stop | unfold Stop2); k_dflt (refine' does_use ?Bx8 ?Fx8 ?Xx8 ?Nx8 ?Tx8 ?hkx8 (wl_spec ?a1x8 ?a2x8 ?a3x8 ?a4x8 ?a5x8 ?a6x8 ?a7x8 ?a8x8 ?a9x8 ?a10x8 ?a11x8 ?a12x8 ?a13x8 ?a14x8) ?pkx8 ?hdx8 ?hux8 ?_; (case Bx8 => k_asm); (case Fx8 => k_asm); (case Xx8 => k_asm); (case Nx8 => k_asm); (case Tx8 => k_asm); (case hkx8 => first | exact rfl | assumption); (case pkx8 => (refine' Pk.cons ?q1x8 (Pk.cons ?q2x8 (Pk.cons ?q3x8 (Pk.cons ?q4x8 Pk.nil))); (case q1x8 => kbt_split); (case q2x8 => kbt_split); (case q3x8 => kbt_split); (case q4x8 => kbt_split))); (case a1x8 => assumption); (case a2x8 => omega); (case a3x8 => (simp only [List.length_reverse]; omega)); (case a4x8 => assumption); (case a5x8 => (simp only [List.length_cons]; omega)); (case a6x8 => assumption); (case a7x8 => assumption); (case a8x8 => assumption); (case a9x8 => assumption); (case a10x8 => assumption); (case a11x8 => assumption); (case a12x8 => assumption); (case a13x8 => assumption); (case a14x8 => assumption); (case hdx8 => ktr_room); (case hux8 => ktr_units)); intro R9 n9 no9 ta9 tb9 rl9 hT9 z1 z2 z3 hz9 tz9 F9 N9; (try dsimp only))
          k_steps
          rename Fr _ _ _ _ => lF
          rename News _ _ _ _ => lN
          rw [← List.reverse_append] at lN
          have h7 := size_tasks (T :: Ts)
          have h8 : sizeS [Task.raw (Str.ofString "]")] = 1 := rfl
          exact whl_stop _ lF lN sub3 (.mk (sizeS ((tasksOf (T :: Ts) ++ [.raw (Str.ofString "]")]) ++ S)) (by rw [size_app, size_app]; simp only [sizeK] at hns; omega) (.mk (O ++ [_]) (Os ++ [Str.ofString "["]) (R9 ++ W) ((tasksOf (T :: Ts) ++ [.raw (Str.ofString "]")]) ++ S) (Str.ofString "[") _ _ _ (rl9 ++ rq) rfl (PyProof.Rows.StrsAre.append' hO (.cons _ _ .nil)) (TasksAre.append hT9 (hT2.mono app_right)) (by rw [List.append_assoc]; exact ok_lst hok hS) rfl (by rw [size_app, size_app]; simp only [sizeK] at hns; omega) (by rw [← hfin, ← rendS_lst]; simp) (offApp z1 q1) (offApp z2 q2) (offApp z3 q3) (fun p hp => List.mem_append_right _ (hrq p hp)) rfl))
end
example : True ∧ True := by
  try walk1
  repeat (first | trivial | constructor)
section
-- part E12

section
variable {prog : Program} {w : World} {A : Around} {E : Value → Shared → Prop} {s : Shared} {env : Env} {h₀ : Heap} {target : Expr} {body : List Stmt} {Q : Flow → Shared → Prop}
theorem itemsRest_ind {I : Addr} {cls : String} {kp : Addr × Obj} (J : Tbl → (Str → Option Value) → Led → Prop)
    (turn : ∀ p r m nx h tk it T t u, J (p :: r) m nx → (∀ p ∈ nx, p.1 ≠ I) → it.cls = .type cls → IsTup h T #[.int p.1 t, .str p.2 u] → Fr h₀ env.locals h m → News h₀ env.locals h ((I, it) :: nx) →
      wpAny (model prog w) A (assign target env (.ref T)) (fun _ s₂ => wpAny (model prog w) A (execs body env) (UnrPostW h₀ env.locals { s with heap := h, toks := tk } [(I, it)] (fun m' n' => SubL [kp] n' ∧ J r m' n') Q) E s₂) E { s with heap := h, toks := tk })
    (done : ∀ m nx h tk, J [] m nx → Fr h₀ env.locals h m → News h₀ env.locals h nx → Q .next { s with heap := h, toks := tk }) :
    ∀ (c : Tbl) (m : Str → Option Value) (nx : Led), J c m nx → (∀ p ∈ nx, p.1 ≠ I) → ItemsRest prog w A E h₀ env target body Q s [(I, cls)] [kp] ((tblD c).map (fun p => Itm.pairF (kyVal p.1) p.2)) m nx := by
  intro c
  induction c with
  | nil => intro m nx hJ _ h tk F N; exact done m nx h tk hJ F N
  | cons p r ih =>
    intro m nx hJ ho u h tk e F
    obtain ⟨T, t, x, rfl, hfl, hT⟩ := e
    obtain ⟨y, rfl⟩ := PyProof.V.Flat.str_inv hfl
    refine AllObj.cons fun it hc => AllObj.nil fun N => ?_
    refine wpAny_mono (turn p r m nx h tk it T t y hJ ho hc hT F N) (fun _ s₂ h₂ => wpAny_mono h₂ (fun f s₃ q => postW_mono q fun m' n' o q => ⟨q.1, ?_⟩) fun _ _ x => x) fun _ _ x => x
    exact ih m' n' q.2 fun p hp => o p hp (I, it) (List.mem_singleton.mpr rfl)
end
theorem put_tbl {c : Tbl} {k : Int} {t : Str} (h : k ∉ c.map (·.1)) : putD (PyData.int k) (PyData.str t) (tblD c) = tblD (c ++ [(k, t)]) := by
  unfold putD
  rw [if_neg]
  · unfold tblD; simp
  · rw [List.any_eq_true]
    rintro ⟨p, hp, e⟩
    unfold tblD at hp
    obtain ⟨q, hq, rfl⟩ := List.mem_map.mp hp
    rw [PyProof.V.same_int] at e
    exact h (List.mem_map.mpr ⟨q, hq, of_decide_eq_true e⟩)
theorem put_tak {ys : List Str} {t : Str} (h : t ∉ ys) : putD (PyData.str t) (PyData.bool true) (takD ys) = takD (ys ++ [t]) := by
  unfold putD
  rw [if_neg]
  · unfold takD; simp
  · rw [List.any_eq_true]
    rintro ⟨p, hp, e⟩
    unfold takD at hp
    obtain ⟨q, hq, rfl⟩ := List.mem_map.mp hp
    rw [PyProof.V.same_str] at e
    exact h ((of_decide_eq_true e) ▸ hq)
local macro_rules | `(tactic| walk_at "exec For Tuple Call cons nil") => `(tactic| (k_here; (rename Fr _ _ _ _ => lF'); (with_unfolding_all refine' For_turns lF' ?_); k_whole))
local macro_rules | `(tactic| walk_at "getMethod ref") => `(tactic| (k_here; (with_reducible show wpAny _ _ (getMethod (Value.ref _) (Str.ofString "items") _) _ _ _); k_dflt (refine getMethod_tab (knd := PySem.intKind _ _) (enc := PyData.int) PySem.F.slot_dict_items PySem.F.type_dict_items (TabAt.ofNews (by k_asm) (by k_mem) (by k_asm) (by k_asm) (by k_asm)) ?_)))
local macro_rules | `(tactic| walk_at "call builtin:dict.items") => `(tactic| (k_here; k_dflt (refine call_items_tab (knd := PySem.intKind _ _) (enc := PyData.int) (TabAt.ofNews (by k_asm) (by k_mem) (by k_asm) (by k_asm) (by k_asm)) (by k_asm) (by k_asm) ?_); intro h9 o9 hv9 F9 N9; (replace N9 := kti_tail N9)))
local macro_rules | `(tactic| walk_at "pyIter ref") => `(tactic| (k_here; (with_reducible show wpAny _ _ (pyIter (Value.ref _)) (fun it s₂ => TurnsAt _ _ _ _ _ _ _ _ _ it s₂) _ _); (rename Fr _ _ _ _ => lF'); (rename News _ _ _ _ => lN'); (with_unfolding_all refine kti_items (knd := PySem.intKind _ _) (enc := PyData.int) (by rfl) lF' lN' (by assumption) (TabAt.ofNews lN' (by k_mem) (by k_asm) (by k_asm) (by k_asm)) (by k_mem) (fun _ _ h => Value.isInt_shape h) (by rfl) ?_); clear lF' lN'; intro i' l1; (try k_lt l1)))
local macro_rules | `(tactic| walk_at "setItem ref int") => `(tactic| (k_here; k_dflt (refine' setItem_K PyProof.V.same_int (intKind_is _ _ _ _) ?v ?F ?N ?U ?d ?f ?_ ?z; (case F => k_asm); (case N => k_asm); (case U => k_updF); (case d => k_asm); (case f => k_asm); (case z => (rw [sizeLine_eq]; simp only [tblD, List.length_map]; omega)); (case v => k_flat)); intro h9 o9 F9 N9 hd9 hf9; (try dsimp only at N9)))
local macro_rules | `(tactic| walk_at "setItem ref str") => `(tactic| (k_here; k_dflt (refine' setItem_K PyProof.V.same_str (strKind_is _ _ _ _) ?v ?F ?N ?U ?d ?f ?_ ?z; (case F => k_asm); (case N => k_asm); (case U => k_updF); (case d => k_asm); (case f => k_asm); (case z => (rw [sizeLine_eq]; simp only [takD, vals, List.length_map]; omega)); (case v => k_flat)); intro h9 o9 F9 N9 hd9 hf9; (try dsimp only at N9)))
/-- what Writer(..) gives -/
noncomputable def InitRet (w : World) (nb : Bool) (c : Tbl) (xs xo : Nat) (rest : Led) (K : Value → Led → Prop) : Prop :=
  ∀ (x dx an at' lo lw : Nat) (H : WrH) (on ot : Obj) (kn : List (Int × Value)) (kt : List (Str × Value)) (ta : Tok) (rr : Led), on.IsDictOf (PySem.intKind P0 w) kn → FlatPairs PyData.int kn (tblD c) → (an == sysModules) = false → ot.IsDictOf (PySem.strKind P0 w) kt → FlatPairs PyData.str kt (takD (vals c)) → (at' == sysModules) = false →
    (an, on) ∈ rr → (at', ot) ∈ rr → (∀ p ∈ rest, p ∈ rr) → Off dx rr → x ≠ dx → K (.ref x) ((x, instObj 472 dx) :: (dx, wrDict H nb xs xo an at' lo lw (Str.ofString "") ta) :: rr)
inductive InitJ (w : World) (x d an at' : Nat) (D : Obj) (rest : Led) (c post : Tbl) (m : Str → Option Value) (nx : Led) : Prop
  | mk (pre : Tbl) (on ot : Obj) (kn : List (Int × Value)) (kt : List (Str × Value)) : pre ++ post = c → m (Str.ofString "self") = some (.ref x) → on.IsDictOf (PySem.intKind P0 w) kn → FlatPairs PyData.int kn (tblD pre) → ot.IsDictOf (PySem.strKind P0 w) kt → FlatPairs PyData.str kt (takD (vals pre)) →
      nx = (at', ot) :: (an, on) :: (x, instObj 472 d) :: (d, D) :: rest → InitJ w x d an at' D rest c post m nx
set_option maxHeartbeats 8000000 in
theorem init_spec {w : World} {mean : ExcName → Option Value} {mg mb : Str → Option Value} {rest : Led} {xs xo nm : Nat} {nb : Bool} {c : Tbl} {on0 : Obj} {kn0 : List (Int × Value)}
    (m1 : (nm, on0) ∈ rest) (hdn : on0.IsDictOf (PySem.intKind P0 w) kn0) (hfn : FlatPairs PyData.int kn0 (tblD c)) (hln : (nm == sysModules) = false) (hc1 : (c.map (·.1)).Nodup) (hc2 : (vals c).Nodup) (hcl : c.length ≤ 10) :
    Does 6 w mean mg mb 472 [.ref xs, .ref xo, .bool true, .bool false, .bool nb, .ref nm] rest (InitRet w nb c xs xo rest) := by
  unfold Does
  intro dp un gd cn cs fa ccd cl outer A₀ base h₀ L m s Q E B F X N Tp hk hd hu hret
  k_dflt (refine' call_cls ?k1 ?k2 ?k3 ?k4 ?k5 ?k6 ?_; (case k1 => k_asm); (case k2 => k_asm); (case k3 => k_asm); (case k4 => k_is); (case k5 => k_is); (case k6 => k_is); k_whole; intro x' d' h' F' N' l1 l2; (try k_lt l1); (try k_lt2 l2); (try k_sweep); fold_lay)
  k_steps
  rename_i an _ oa0 la0 _ _ hia fia q1 _ at' _ ob0 lb0 hsb fsb _ _ q2 _ _ _ _ _ _ I q3
  have e1 : @Ne Nat x' an := by k_ne
  have e2 : @Ne Nat d' an := by k_ne
  have e3 : @Ne Nat at' an := by k_ne
  have e4 : @Ne Nat x' at' := by k_ne
  have e5 : @Ne Nat d' at' := by k_ne
  have e6 := e3.symm
  have e7 : @Ne Nat x' d' := Nat.ne_of_gt l2
  have f1 : @Ne Nat x' I := by k_ne
  have f2 : @Ne Nat d' I := by k_ne
  have f3 : @Ne Nat an I := by k_ne
  have f4 : @Ne Nat at' I := by k_ne
  have r1 : Off an rest := allLt_ne (by krn_off)
  have r2 : Off at' rest := allLt_ne (by krn_off)
  have r3 : Off I rest := allLt_ne (by krn_off)
  have r4 : Off d' rest := allLt_ne (by krn_off)
  clear q1 q2 q3
  refine itemsRest_ind (InitJ w x' d' an at' _ rest c) ?turn ?done c _ _ (.mk [] oa0 ob0 [] [] rfl rfl hia fia hsb fsb rfl) ?o
  case o => first | k_all | fail
  case turn =>
    intro p r m nx h tk it T t u hJ hoffI hcls hTup F N
    obtain ⟨pre, on, ot, kn, kt, hpr, hm1, hdon, hfon, hdot, hfot, hnx⟩ := hJ
    rw [name_form hm1] at F
    subst hnx
    have hpl : pre.length ≤ 10 := by
      have := congrArg List.length hpr
      rw [List.length_append] at this; omega
    have hq1 : p.1 ∉ pre.map (·.1) := by
      rw [← hpr, List.map_append, List.nodup_append] at hc1
      exact fun hm => hc1.2.2 _ hm _ (List.mem_cons_self ..) rfl
    have hq2 : p.2 ∉ vals pre := by
      unfold vals at *
      rw [← hpr, List.map_append, List.nodup_append] at hc2
      exact fun hm => hc2.2.2 _ hm _ (List.mem_cons_self ..) rfl
    k_steps
    rename_i o1 _ _ hd1 hf1 _ o2 lF lN hd2 hf2
    rw [put_tbl hq1] at hf1
    rw [put_tak hq2] at hf2
    have e1 : vals pre ++ [p.2] = vals (pre ++ [p]) := by unfold vals; simp
    rw [e1] at hf2
    exact turn_out lF lN (by first | kbt_split | fail) (by first | k_all | fail) (by first | k_mem | fail) (.mk (pre ++ [p]) _ _ _ _ (by rw [← hpr]; simp) rfl hd1 hf1 hd2 hf2 rfl)
  case done =>
    intro m nx h tk hJ F N
    obtain ⟨pre, on, ot, kn, kt, hpr, hm1, hdon, hfon, hdot, hfot, hnx⟩ := hJ
    rw [name_form hm1] at F
    subst hnx
    rw [List.append_nil] at hpr
    subst hpr
    k_steps
    rename Fr _ _ _ _ => kF
    rename News _ _ _ _ => kN
    refine hret x' d' an at' _ _ ⟨_, _, _, _, _, _, _, _, _, _, _, _, _, _, _, _, _, _, _, _, _, _⟩ on ot kn kt _ ((an, on) :: (at', ot) :: rest) hdon hfon la0 hdot hfot lb0 (.head _) (.tail _ (.head _)) (fun p hp => .tail _ (.tail _ hp)) (off1 e2.symm (off1 e5.symm r4)) e7 _ _ kF (cb_drop kN (by first | ksw_less | fail))
end
example : True ∧ True := by
  try walk1
  repeat (first | trivial | constructor)
section
-- part E12a

theorem rng6 {b : Int} (h0 : 1 ≤ b) (h1 : b ≤ 6) : Builtin.Range.small 0 b 1 = true ∧ Builtin.Range.rangeSize 0 b 1 = ((b.toNat : Nat) : Int) ∧ 1 ≤ b.toNat ∧ b.toNat ≤ 6 := by
  have : b = 1 ∨ b = 2 ∨ b = 3 ∨ b = 4 ∨ b = 5 ∨ b = 6 := by omega
  rcases this with rfl | rfl | rfl | rfl | rfl | rfl <;> decide
theorem fm6 (x : Int) : 1 ≤ 1 + Int.fmod x 6 ∧ 1 + Int.fmod x 6 ≤ 6 := by
  rw [Int.fmod_eq_emod_of_nonneg _ (by decide)]
  omega
/-- what the law says of a term -/
noncomputable def told (nb : Bool) (c : Tbl) : Term → Str
  | .v k => nameT c k
  | .fn (.i f) => if nb = true ∧ 0 ≤ f then varT f else Str.ofString "'$VAR'(" ++ numT f ++ Str.ofString ")"
  | .fn (.a _) => Str.ofString "'$VAR'(k)"
  | _ => Str.ofString ""
noncomputable def cat : List Str → Str
  | [] => Str.ofString ""
  | t :: r => t ++ cat r
theorem empty_str : Str.ofString "" = Str.empty := by decide +kernel
theorem cat_app : ∀ a b : List Str, cat (a ++ b) = cat a ++ cat b
  | [], b => by rw [List.nil_append]; show cat b = Str.ofString "" ++ cat b; rw [empty_str, Str.empty_append]
  | t :: r, b => by rw [List.cons_append]; show t ++ cat (r ++ b) = (t ++ cat r) ++ cat b; rw [cat_app r b, Str.append_assoc]
theorem join_cat : ∀ l : List Str, Txt.join (Str.ofString "") l = cat l := by
  intro l
  have e : Txt.join (Str.ofString "") l = Str.join (Str.ofString "") l := StrLaws.glued_eq_join _ l
  rw [e]
  induction l with
  | nil => decide +kernel
  | cons t r ih =>
    cases r with
    | nil => show t = t ++ Str.ofString ""; apply Str.ext'; simp [Str.cps_append]; decide +kernel
    | cons u r =>
      show t ++ Str.ofString "" ++ Str.join (Str.ofString "") (u :: r) = t ++ cat (u :: r)
      rw [ih (StrLaws.glued_eq_join _ _), Str.append_assoc]
      congr 1
      rw [empty_str, Str.empty_append]
theorem join_comma (t : Str) : ∀ l : List Str, Txt.join (Str.ofString ",") (t :: l) = t ++ cat (l.flatMap fun u => [Str.ofString ",", u]) := by
  intro l
  have e : Txt.join (Str.ofString ",") (t :: l) = Str.join (Str.ofString ",") (t :: l) := StrLaws.glued_eq_join _ _
  rw [e]
  induction l generalizing t with
  | nil => show t = t ++ Str.ofString ""; apply Str.ext'; simp [Str.cps_append]; decide +kernel
  | cons u r ih =>
    show t ++ Str.ofString "," ++ Str.join (Str.ofString ",") (u :: r) = t ++ (Str.ofString "," ++ (u ++ cat (r.flatMap fun u => [Str.ofString ",", u])))
    rw [ih u (StrLaws.glued_eq_join _ _), Str.append_assoc]
theorem app_empty (t : Str) : t ++ Str.ofString "" = t := by apply Str.ext'; simp [Str.cps_append]; decide +kernel
/-- the items that the law makes -/
inductive OkI (Tx : List Str) : Term → Prop
  | v {k : Int} : 0 ≤ k → k < 4 → OkI Tx (.v k)
  | fi {f : Int} : f ∈ [(0 : Int), 25, 26, 27, 700, -1] → OkI Tx (.fn (.i f))
  | fa {n : Int} : 0 ≤ n → n < 100000 → Tx[n.toNat]? = some (Str.ofString "k") → OkI Tx (.fn (.a n))
theorem OkI.okT {Tx : List Str} {T : Term} (h : OkI Tx T) : OkT Tx T := by
  cases h with
  | v h0 h3 => exact .v h0 h3
  | fi h => exact .fi h
  | fa h0 h1 h2 => exact .fa (.a h0 h1 h2)
theorem cat_told {nb : Bool} {c : Tbl} {Tx : List Str} {T : Term} (h : OkI Tx T) : cat (outT nb c T) = told nb c T := by
  cases h with
  | v h0 h3 => exact app_empty _
  | @fi f h =>
    show cat (if nb = true ∧ 0 ≤ f then [varT f] else [atomT (Str.ofString "$VAR"), Str.ofString "(", numT f, Str.ofString ")"]) = (if nb = true ∧ 0 ≤ f then varT f else Str.ofString "'$VAR'(" ++ numT f ++ Str.ofString ")")
    split
    · exact app_empty _
    · show atomT (Str.ofString "$VAR") ++ (Str.ofString "(" ++ (numT f ++ (Str.ofString ")" ++ Str.ofString ""))) = _
      rw [app_empty, ← Str.append_assoc, ← Str.append_assoc, show atomT (Str.ofString "$VAR") ++ Str.ofString "(" = Str.ofString "'$VAR'(" from by decide +kernel]
  | fa _ _ _ => show cat [atomT (Str.ofString "$VAR"), Str.ofString "(", atomT (Str.ofString "k"), Str.ofString ")"] = Str.ofString "'$VAR'(k)"; decide +kernel
theorem law_eq {nb : Bool} {c : Tbl} {Tx : List Str} {T : Term} {Ts : List Term} (h : ∀ U ∈ T :: Ts, OkI Tx U) :
    Txt.join (Str.ofString "") (rend nb c (.lst (T :: Ts))) = Str.ofString "[" ++ Txt.join (Str.ofString ",") ((T :: Ts).map (told nb c)) ++ Str.ofString "]" := by
  have more : ∀ r : List Term, (∀ U ∈ r, OkI Tx U) → cat (r.flatMap fun T => Str.ofString "," :: outT nb c T) = cat ((r.map (told nb c)).flatMap fun u => [Str.ofString ",", u]) := by
    intro r
    induction r with
    | nil => intro _; rfl
    | cons U r ih =>
      intro hr
      rw [List.flatMap_cons, cat_app, ih fun V hV => hr V (.tail _ hV), List.map_cons, List.flatMap_cons, cat_app]
      congr 1
      show Str.ofString "," ++ cat (outT nb c U) = Str.ofString "," ++ (told nb c U ++ Str.ofString "")
      rw [cat_told (hr U (.head _)), app_empty]
  rw [join_cat, List.map_cons, join_comma]
  show Str.ofString "[" ++ cat (itemsOut nb c (T :: Ts) ++ [Str.ofString "]"]) = _
  rw [cat_app]
  show Str.ofString "[" ++ (cat (outT nb c T ++ Ts.flatMap fun T => Str.ofString "," :: outT nb c T) ++ (Str.ofString "]" ++ Str.ofString "")) = _
  rw [cat_app, app_empty, cat_told (h T (.head _)), more Ts fun V hV => h V (.tail _ hV)]
  simp only [Str.append_assoc]
end
example : True ∧ True := by
  try walk1
  repeat (first | trivial | constructor)
section
-- part E13

theorem ex_bool {h₀ h : Heap} {L : Addr} {m : Str → Option Value} (_F : Fr h₀ L h m) {b : Bool} (hb : m (Str.ofString "numbervars") = some (.bool b)) : ∃ nb, m (Str.ofString "numbervars") = some (.bool nb) := ⟨b, hb⟩
section
variable {prog : Program} {w : World} {A : Around} {E : Value → Shared → Prop} {s : Shared} {h₀ : Heap} {L l : Addr} {news : Led} {m : Str → Option Value}
theorem item_cell {value slice : PySem.Expr} {vs : List Value} {C : List Int} {n : Nat} {k : Int} {u : Tok} {Q : Value → Shared → Prop} (N : News h₀ L s.heap news) (hm : (l, listOf vs.toArray n) ∈ news) (hi : IntsAre vs C) (h0 : 0 ≤ k) (h1 : k < 12) (hl : 12 ≤ C.length) (hp : ∀ x ∈ C, 0 ≤ x)
    (h : ∀ x t, 0 ≤ x → Q (.int x t) s) (hs : subscripted slice false (.ref l) (.int k u) = operate [.ref l, .int k u] (getItem (.ref l) (.int k u)) := by with_unfolding_all rfl) :
    wpAny (model prog w) A (subscriptTail value slice (.ref l) (.int k u)) Q E s := by
  have hk : k.toNat < C.length := by omega
  obtain ⟨t, ht⟩ := hi.get k.toNat C[k.toNat] (List.getElem?_eq_getElem hk)
  exact item_litK (News.isList N hm) h0 (by omega) ht (h _ t (hp _ (List.getElem_mem hk))) hs
theorem item_row {value slice : PySem.Expr} {vs : List Value} {n : Nat} {k : Int} {u : Tok} {Q : Value → Shared → Prop} (N : News h₀ L s.heap news) (hm : (l, listOf vs.toArray n) ∈ news) (h0 : 0 ≤ k) (h1 : k < (vs.length : Nat)) (h2 : k < 1000)
    (h : ∀ v, v ∈ vs → Q v s) (hs : subscripted slice false (.ref l) (.int k u) = operate [.ref l, .int k u] (getItem (.ref l) (.int k u)) := by with_unfolding_all rfl) :
    wpAny (model prog w) A (subscriptTail value slice (.ref l) (.int k u)) Q E s := by
  have hk : k.toNat < vs.length := by omega
  exact item_litK (News.isList N hm) h0 (by omega) (List.getElem?_eq_getElem hk) (h _ (List.getElem_mem hk)) hs
theorem range_K {n : Int} {t : Tok} {Q : Value → Shared → Prop} (F : Fr h₀ L s.heap m) (N : News h₀ L s.heap news)
    (h : ∀ (r : Addr) h' tk t1 t2, IsRange h' r 0 n 1 t1 t t2 → Fr h₀ L h' m → News h₀ L h' news → (∀ p ∈ news, p.1 < r) → Q (.ref r) { s with heap := h', toks := tk }) :
    wpAny (model prog w) A (call (.type "range") [.int n t]) Q E s :=
  call_range_1 (h _ _ _ _ _ (IsRange.new _ _ _ _ _ _ _) (F.push _) (kti_tail (News.push F N _)) fun p hp => Heap.lt_size (N p hp).1)
end
theorem toks_any {prog : Program} {w : World} {A : Around} {E : Value → Shared → Prop} {α : Type} {c : Sem α} {Q : α → Shared → Prop} {h : Heap} {g : Array GenState} {dr : Drawn} {os : OsState} {x : Nat} (hh : ∀ tk, wpAny (model prog w) A c Q E ⟨h, g, dr, tk, os⟩) : wpAny (model prog w) A c Q E ⟨h, g, dr, x, os⟩ := hh x
theorem toks_plus {prog : Program} {w : World} {A : Around} {E : Value → Shared → Prop} {α : Type} {c : Sem α} {Q : α → Shared → Prop} {h : Heap} {g : Array GenState} {dr : Drawn} {os : OsState} {x : Nat} (hh : ∀ tk, wpAny (model prog w) A c Q E ⟨h, g, dr, tk, os⟩) : wpAny (model prog w) A c Q E ⟨h, g, dr, x + 1, os⟩ := hh (x + 1)
theorem toks_plus2 {prog : Program} {w : World} {A : Around} {E : Value → Shared → Prop} {α : Type} {c : Sem α} {Q : α → Shared → Prop} {h : Heap} {g : Array GenState} {dr : Drawn} {os : OsState} {x y : Nat} (hh : ∀ tk, wpAny (model prog w) A c Q E ⟨h, g, dr, tk, os⟩) : wpAny (model prog w) A c Q E ⟨h, g, dr, x + y, os⟩ := hh (x + y)
theorem cells_ok {ws : List Value} {ns : List Int} (h : IntsAre ws (List.map (fun k' => if k' < 0 then -k' else k') ns ++ (List.replicate (Int.toNat 12) [(0 : Int)]).flatten)) : ∃ C, IntsAre ws C ∧ 12 ≤ C.length ∧ ∀ x ∈ C, 0 ≤ x := by
  refine ⟨_, h, ?_, fun x hx => ?_⟩
  · rw [List.length_append]
    have : (List.replicate (Int.toNat 12) [(0 : Int)]).flatten.length = 12 := by decide
    omega
  · rcases List.mem_append.mp hx with hx | hx
    · obtain ⟨y, _, rfl⟩ := List.mem_map.mp hx
      split <;> omega
    · have : ∀ z ∈ (List.replicate (Int.toNat 12) [(0 : Int)]).flatten, 0 ≤ z := by decide
      exact this x hx
theorem fm5 (x : Int) : 0 ≤ Int.fmod x 5 ∧ Int.fmod x 5 < 5 ∧ Int.fmod x 5 < 1000 := by
  rw [Int.fmod_eq_emod_of_nonneg _ (by decide)]
  omega
theorem tbl_fit {c : Tbl} (h : c.length ≤ 10) : ([] : List (PyData × PyData)).length + (tblD c).length ≤ sizeLine := by
  rw [sizeLine_eq]
  simp only [tblD, List.length_map, List.length_nil]
  omega
theorem merge_tables {c : Tbl} (h : c ∈ Tables) : ktMergeD [] (tblD c) = tblD c := by
  unfold Tables at h
  simp only [List.mem_cons, List.not_mem_nil, or_false] at h
  rcases h with rfl | rfl | rfl | rfl | rfl <;> rfl
theorem tables_nodup {c : Tbl} (h : c ∈ Tables) : (c.map (·.1)).Nodup ∧ (vals c).Nodup ∧ c.length ≤ 10 := by
  unfold Tables at h
  simp only [List.mem_cons, List.not_mem_nil, or_false] at h
  rcases h with rfl | rfl | rfl | rfl | rfl <;> decide +kernel
noncomputable def DictTbl (w : World) (a : Addr) (o : Obj) : Prop := ∃ kv c, c ∈ Tables ∧ Obj.IsDictOf (PySem.intKind P0 w) o kv ∧ FlatPairs PyData.int kv (tblD c) ∧ (a == sysModules) = false
noncomputable def RowOk (w : World) (rl : Led) (v : Value) : Prop := ∃ a o, v = .ref a ∧ (a, o) ∈ rl ∧ DictTbl w a o
local macro_rules | `(tactic| walk_at $k:str) => if k.getString.startsWith "Unr" then `(tactic| refine stopper ?_) else if k.getString.startsWith "last " || (k.getString.startsWith "subscriptTail" && k.getString.endsWith " int") || ["compareOp In", "call type:str", "call type:range", "call builtin:dict.", "call builtin:str.join", "execs cons If", "exec While", "pyIter ref"].any (fun x => x.isPrefixOf k.getString) then `(tactic| ((with_reducible show wpAny _ _ _ _ _ _); refine stopper ?_)) else Lean.Macro.throwUnsupported
local macro_rules | `(tactic| walk_at "storeName") => `(tactic| (k_here; (with_reducible show wpAny _ _ (storeName _ (Str.ofString "rows") _) _ _ _); refine stopper ?_))
theorem rows_fold {w : World} {h₀ h : Heap} {L l a1 a2 a3 a4 a5 : Addr} {o1 o2 o3 o4 o5 : Obj} {n : Nat} {old : Led} (N : News h₀ L h ((l, listOf [Value.ref a1, .ref a2, .ref a3, .ref a4, .ref a5].toArray n) :: (a5, o5) :: (a4, o4) :: (a3, o3) :: (a2, o2) :: (a1, o1) :: old))
    (k1 : DictTbl w a1 o1) (k2 : DictTbl w a2 o2) (k3 : DictTbl w a3 o3) (k4 : DictTbl w a4 o4) (k5 : DictTbl w a5 o5) (H1 : AllLt a1 old) (H2 : AllLt a2 ((a1, o1) :: old)) (H3 : AllLt a3 ((a2, o2) :: (a1, o1) :: old)) (H4 : AllLt a4 ((a3, o3) :: (a2, o2) :: (a1, o1) :: old)) (H5 : AllLt a5 ((a4, o4) :: (a3, o3) :: (a2, o2) :: (a1, o1) :: old)) (Hl : AllLt l ((a5, o5) :: (a4, o4) :: (a3, o3) :: (a2, o2) :: (a1, o1) :: old)) :
    ∃ (RV : List Value) (rl : Led), RV.length = 5 ∧ (∀ v ∈ RV, RowOk w rl v) ∧ (l, listOf RV.toArray n) ∈ rl ∧ (∀ b o, (b, o) ∈ old → Off b rl) ∧ News h₀ L h (rl ++ old) := by
  refine ⟨[Value.ref a1, .ref a2, .ref a3, .ref a4, .ref a5], [(l, listOf [Value.ref a1, .ref a2, .ref a3, .ref a4, .ref a5].toArray n), (a5, o5), (a4, o4), (a3, o3), (a2, o2), (a1, o1)], rfl, fun v hv => ?_, .head _, fun b o hb => ?_, N⟩
  · simp only [List.mem_cons, List.not_mem_nil, or_false] at hv
    rcases hv with rfl | rfl | rfl | rfl | rfl
    · exact ⟨a1, o1, rfl, .tail _ (.tail _ (.tail _ (.tail _ (.tail _ (.head _))))), k1⟩
    · exact ⟨a2, o2, rfl, .tail _ (.tail _ (.tail _ (.tail _ (.head _)))), k2⟩
    · exact ⟨a3, o3, rfl, .tail _ (.tail _ (.tail _ (.head _))), k3⟩
    · exact ⟨a4, o4, rfl, .tail _ (.tail _ (.head _)), k4⟩
    · exact ⟨a5, o5, rfl, .tail _ (.head _), k5⟩
  · exact off1 (gt_ne Hl.2.2.2.2.2 hb) (off1 (gt_ne H5.2.2.2.2 hb) (off1 (gt_ne H4.2.2.2 hb) (off1 (gt_ne H3.2.2 hb) (off1 (gt_ne H2.2 hb) (off1 (gt_ne H1 hb) fun _ h => nomatch h)))))
/-- what the Writer reads and the law's loop leaves alone -/
inductive Still (w : World) (xs xo bf k17 dy bp bi bq nf : Nat) (HO : OpsH) (Fs : List Value) (tf1 tf2 : Tok) (op oq : Obj) (kp : List (Int × Value)) (rest : Led) : Prop
  | mk : (bf, listOf Fs.toArray nf) ∈ rest → (k17, tupO [.int 26 tf1, .int 1 tf2]) ∈ rest → (xo, instObj 287 dy) ∈ rest → (dy, opsDict HO xs bp bi bq) ∈ rest → (bp, op) ∈ rest → (bq, oq) ∈ rest →
      Fs[17]? = some (.ref k17) → op.IsDictOf (PySem.intKind P0 w) kp → valueAt kp 26 = none → oq.IsDictOf (PySem.intKind P0 w) [] → (bp == sysModules) = false → (bq == sysModules) = false → Still w xs xo bf k17 dy bp bi bq nf HO Fs tf1 tf2 op oq kp rest
theorem Still.mono {w : World} {xs xo bf k17 dy bp bi bq nf : Nat} {HO : OpsH} {Fs : List Value} {tf1 tf2 : Tok} {op oq : Obj} {kp : List (Int × Value)} {rest rest' : Led} (h : Still w xs xo bf k17 dy bp bi bq nf HO Fs tf1 tf2 op oq kp rest) (hs : ∀ p ∈ rest, p ∈ rest') : Still w xs xo bf k17 dy bp bi bq nf HO Fs tf1 tf2 op oq kp rest' := by
  obtain ⟨h4, h5, h6, h7, h8, h9, a, b, c, d, e, f⟩ := h
  exact ⟨hs _ h4, hs _ h5, hs _ h6, hs _ h7, hs _ h8, hs _ h9, a, b, c, d, e, f⟩
theorem Still.books {w : World} {xs xo ds bt bn bf bg k17 dy bp bi bq nt nf : Nat} {HS : SymH} {HO : OpsH} {vT Fs : List Value} {tf1 tf2 : Tok} {op oq : Obj} {kp : List (Int × Value)} {rest rest' : Led} (h : Still w xs xo bf k17 dy bp bi bq nf HO Fs tf1 tf2 op oq kp rest) (hs : ∀ p ∈ rest, p ∈ rest') (h1 : (xs, instObj 122 ds) ∈ rest') (h2 : (ds, symDict HS bt bn bf bg) ∈ rest') (h3 : (bt, listOf vT.toArray nt) ∈ rest') : Books w xs xo ds bt bn bf bg k17 dy bp bi bq nt nf HS HO vT Fs tf1 tf2 op oq kp rest' := by
  obtain ⟨h4, h5, h6, h7, h8, h9, a, b, c, d, e, f⟩ := h.mono hs
  exact ⟨h1, h2, h3, h4, h5, h6, h7, h8, h9, a, b, c, d, e, f⟩
theorem OkI.mono {Tx Tx' : List Str} {U : Term} (h : OkI Tx U) (hs : ∀ (i : Nat) t, Tx[i]? = some t → Tx'[i]? = some t) : OkI Tx' U := by
  cases h with
  | v h0 h1 => exact .v h0 h1
  | fi h => exact .fi h
  | fa h0 h1 h2 => exact .fa h0 h1 (hs _ _ h2)
theorem atomTo_mono {T T' : List Str} {t : Str} {i : Int} (h : AtomTo T t T' i) : ∀ (i : Nat) u, T[i]? = some u → T'[i]? = some u := by
  intro k u hu
  rcases h with ⟨rfl, _, _⟩ | ⟨rfl, _, _⟩
  · exact hu
  · rw [List.getElem?_append_left (List.getElem?_eq_some_iff.mp hu).1]; exact hu
theorem told_hit {nb : Bool} {c : Tbl} {k : Int} {t : Str} (h : look c k = some t) : t = told nb c (.v k) := by
  show t = nameT c k
  unfold nameT; rw [h]
theorem told_num {nb : Bool} {c : Tbl} {f : Int} (h1 : nb = true) (h2 : 0 ≤ f) : varT f = told nb c (.fn (.i f)) := by
  show _ = if nb = true ∧ 0 ≤ f then varT f else _
  rw [if_pos ⟨h1, h2⟩]
theorem told_neg {nb : Bool} {c : Tbl} {f : Int} (h : ¬(nb = true ∧ 0 ≤ f)) : Str.ofString "'$VAR'(" ++ numT f ++ Str.ofString ")" = told nb c (.fn (.i f)) := by
  show _ = if nb = true ∧ 0 ≤ f then varT f else _
  rw [if_neg h]
theorem flat_vals {kn : List (Int × Value)} : ∀ {c : Tbl}, FlatPairs PyData.int kn (tblD c) → StrsAre (kn.map (·.2)) (vals c) := by
  induction kn with
  | nil => intro c h; cases c with
    | nil => exact .nil
    | cons p c => cases h
  | cons q kn ih => intro c h; cases c with
    | nil => cases h
    | cons p c =>
      obtain ⟨k, v⟩ := q
      cases h with
      | cons h1 h2 =>
        obtain ⟨t, rfl⟩ := PyProof.V.Flat.str_inv h1
        exact .cons _ _ (ih h2)
theorem fmd6 (x : Int) : 0 ≤ Int.fmod x 6 ∧ Int.fmod x 6 < 6 ∧ Int.fmod x 6 < 1000 := by
  rw [Int.fmod_eq_emod_of_nonneg _ (by decide)]
  omega
theorem six {v : Value} {t1 t2 t3 t4 t5 t6 : Tok} (h : v ∈ [Value.int 0 t1, .int 25 t2, .int 26 t3, .int 27 t4, .int 700 t5, .int (-1) t6]) : ∃ f t, v = .int f t ∧ f ∈ [(0 : Int), 25, 26, 27, 700, -1] := by
  simp only [List.mem_cons, List.not_mem_nil, or_false] at h
  rcases h with rfl | rfl | rfl | rfl | rfl | rfl <;> exact ⟨_, _, rfl, by decide⟩
section
variable {prog : Program} {w : World} {A : Around} {E : Value → Shared → Prop} {s : Shared} {d v : Addr} {h₀ : Heap} {L : Addr} {news : Led} {m : Str → Option Value}
theorem in_vals {c : Tbl} {t : Str} {tk : Tok} {o : Obj} {kn : List (Int × Value)} {Q : Value → Shared → Prop} (hh : A.in1.handled = none) (F : Fr h₀ L s.heap m) (N : News h₀ L s.heap news) (hv : s.heap.IsValuesView v d) (hd : (d, o) ∈ news) (ho : o.IsDictOf (PySem.intKind prog w) kn) (hf : FlatPairs PyData.int kn (tblD c))
    (h1 : (vals c).any (· == t) = true → ∀ h' tk, Fr h₀ L h' m → News h₀ L h' news → Q (.bool true) { s with heap := h', toks := tk }) (h2 : (vals c).any (· == t) = false → ∀ h' tk, Fr h₀ L h' m → News h₀ L h' news → Q (.bool false) { s with heap := h', toks := tk }) :
    wpAny (model prog w) A (compareOp .In (.str t tk) (.ref v)) Q E s := by
  have hvv := hv
  have hy := flat_vals hf
  obtain ⟨es, ep, hc, hdat, hk0, hp, hn⟩ := ho
  have hat : s.heap.DictAt (PySem.intKind prog w) d kn ep := ⟨o, es, (N _ hd).1, hc, hdat, hk0, hp, hn⟩
  have hne : d ≠ s.heap.objs.size := Nat.ne_of_lt hat.lt_size
  show wpAny _ _ (contains (.ref v) (.str t tk) >>= _) Q E s
  refine wpAny_bind ?_
  unfold contains
  refine wpAny_holding ?_
  rw [stdlibNamesSay?_of_typeIs hvv.typeIs]
  refine wpAny_bind (wpAny_specialOf hvv.typeIs values_no_contains ?_)
  refine wpAny_bind (wpAny_callSpecialUnlessNone?_none (name := Str.ofString "__contains__") hvv.typeIs values_no_contains ?_)
  refine wpAny_bind (wpAny_rule ?_)
  refine wpAny_bind (wpAny_tryCatch (wpAny_pyIter_values hvv hat ?_))
  refine wpAny_bind (wpAny_runValue (contains_iter_vals (knd := PySem.intKind prog w) hh hne hy t tk kn.length 0 _ _ rfl (Nat.zero_le _) ⟨_, Heap.get?_push_size _ rfl, rfl, rfl⟩ (hat.push _) fun h' tk hm => ?_))
  refine wpAny_pure ?_
  refine wpAny_pure ?_
  have hk : ∀ b o, s.heap.get? b = some o → h'.get? b = some o := fun b o e =>
    hm b o (fun hb => absurd (Heap.lt_size e) (by rw [List.mem_singleton.mp hb]; exact Nat.lt_irrefl _)) (Heap.get?_push_of_some _ e)
  have hQ : ∀ b, (vals c).any (· == t) = b → ∀ h' tk, Fr h₀ L h' m → News h₀ L h' news → Q (.bool b) { s with heap := h', toks := tk } := fun b => by
    cases b with
    | true => exact h1
    | false => exact h2
  exact hQ _ rfl h' tk ⟨F.ns.at fun o e => hk L o e, fun b o e => hk b o (F.keep b o e), F.above⟩ fun p hp => ⟨hk _ _ (N p hp).1, (N p hp).2⟩
end
theorem str_fig {prog : Program} {w : World} {A : Around} {E : Value → Shared → Prop} {s : Shared} {f : Int} {tk : Tok} {Q : Value → Shared → Prop} (hf : f ∈ Nums) (h : ∀ t k', Q (.str (numT f) t) { s with toks := k' }) : wpAny (model prog w) A (call (.type "str") [.int f tk]) Q E s := by
  have e : numT f = Str.ofString (toString f) := by
    unfold Nums at hf
    simp only [List.mem_cons, List.not_mem_nil, or_false] at hf
    rcases hf with rfl | rfl | rfl | rfl | rfl | rfl | rfl <;> decide +kernel
  rw [e] at h
  refine P.str_of_int ?_ (h _ _)
  unfold Nums at hf
  simp only [List.mem_cons, List.not_mem_nil, or_false] at hf
  rcases hf with rfl | rfl | rfl | rfl | rfl | rfl | rfl <;> decide +kernel
section
variable {h₀ h : Heap} {L D2 Z1 Z2 : Addr} {t u t1 u1 : Tok} {r : Led}
theorem v_fold {K : Int} (N : News h₀ L h ((D2, tupO [.str (Str.ofString "v") t, .int K u]) :: r)) : ∃ o, TermIs [(D2, o)] (.ref D2) (.v K) ∧ News h₀ L h ((D2, o) :: r) := ⟨_, .v (.head _), N⟩
theorem fn_fold {o : Obj} {x : Term} (hx : TermIs [(Z1, o)] (.ref Z1) x) (N : News h₀ L h ((D2, tupO [.str (Str.ofString "s") t, .int 17 u, .ref Z2]) :: (Z2, tupO [.ref Z1]) :: (Z1, o) :: r)) (H1 : AllLt Z1 r) (H2 : AllLt Z2 ((Z1, o) :: r)) (H3 : AllLt D2 ((Z2, tupO [.ref Z1]) :: (Z1, o) :: r)) :
    ∃ nl : Led, TermIs nl (.ref D2) (.fn x) ∧ (∀ b o, (b, o) ∈ r → Off b nl) ∧ News h₀ L h (nl ++ r) :=
  ⟨[(D2, tupO [.str (Str.ofString "s") t, .int 17 u, .ref Z2]), (Z2, tupO [.ref Z1]), (Z1, o)], .fn (.head _) (.tail _ (.head _)) (hx.mono fun p hp => .tail _ (.tail _ hp)), fun b o hb => off1 (gt_ne H3.2.2 hb) (off1 (gt_ne H2.2 hb) (off1 (gt_ne H1 hb) fun _ h => nomatch h)), N⟩
theorem i_is {f : Int} : TermIs [(Z1, tupO [.str (Str.ofString "i") t, .int f u])] (.ref Z1) (.i f) := .i (.head _)
theorem a_is {f : Int} : TermIs [(Z1, tupO [.str (Str.ofString "a") t, .int f u])] (.ref Z1) (.a f) := .a (.head _)
end
inductive TurnW (base : List (Str × Value)) (c : Tbl) (K : Int) (led : Led) (n : Nat) (m : Str → Option Value) (nx : Led) : Prop
  | mk (t : Str) (tt : Tok) : Has m ((Str.ofString "told", .str t tt) :: base) → 5 ≤ t.length + n → grow (vals c) n t = nameT c K → t.length ≤ 20 → nx = led → TurnW base c K led n m nx
theorem six_or {f : Int} (hf : f ∈ [(0 : Int), 25, 26, 27, 700, -1]) : f = 0 ∨ f = 25 ∨ f = 26 ∨ f = 27 ∨ f = 700 ∨ f = -1 := by
  simpa only [List.mem_cons, List.not_mem_nil, or_false] using hf
theorem num_len {f : Int} (hf : f ∈ [(0 : Int), 25, 26, 27, 700, -1]) : (numT f).length ≤ 3 := by
  rcases six_or hf with rfl | rfl | rfl | rfl | rfl | rfl <;> decide +kernel
theorem fm26 (x : Int) : 0 ≤ Int.fmod x 26 ∧ Int.fmod x 26 < 26 := by
  rw [Int.fmod_eq_emod_of_nonneg _ (by decide)]
  omega
theorem told_hi {nb : Bool} {c : Tbl} {f : Int} (hf : f ∈ [(0 : Int), 25, 26, 27, 700, -1]) (h1 : nb = true) (h2 : f ≥ 0) (h : f > 25) : Txt.item (Str.ofString "ABCDEFGHIJKLMNOPQRSTUVWXYZ") (Int.fmod f 26) ++ numT (Int.fdiv f 26) = told nb c (.fn (.i f)) := by
  rw [← told_num h1 h2]
  rcases six_or hf with rfl | rfl | rfl | rfl | rfl | rfl <;> first | omega | decide +kernel
theorem told_lo {nb : Bool} {c : Tbl} {f : Int} (hf : f ∈ [(0 : Int), 25, 26, 27, 700, -1]) (h1 : nb = true) (h2 : f ≥ 0) (h : ¬ f > 25) : Txt.item (Str.ofString "ABCDEFGHIJKLMNOPQRSTUVWXYZ") (Int.fmod f 26) ++ Str.ofString "" = told nb c (.fn (.i f)) := by
  rw [← told_num h1 h2]
  rcases six_or hf with rfl | rfl | rfl | rfl | rfl | rfl <;> first | omega | decide +kernel
theorem cat_len : ∀ l : List Str, (cat l).length = (l.map (·.length)).sum
  | [] => by decide +kernel
  | t :: r => by
    show (t ++ cat r).length = t.length + (r.map (·.length)).sum
    rw [Str.length_append, cat_len r]
theorem told_len {nb : Bool} {c : Tbl} {Tx : List Str} {T : Term} (hs : Short (vals c)) (hl : Long (vals c)) (h : OkI Tx T) : (told nb c T).length ≤ 20 := by
  cases h with
  | v h0 h3 => exact (name_len hs hl h0 h3).2
  | @fi f h =>
    show (if nb = true ∧ 0 ≤ f then varT f else Str.ofString "'$VAR'(" ++ numT f ++ Str.ofString ")").length ≤ 20
    simp only [List.mem_cons, List.not_mem_nil, or_false] at h
    split <;> rcases h with rfl | rfl | rfl | rfl | rfl | rfl <;> decide +kernel
  | fa _ _ _ => show (Str.ofString "'$VAR'(k)").length ≤ 20; decide +kernel
theorem pairs_len : ∀ l : List Str, (∀ u ∈ l, u.length ≤ 20) → ((l.flatMap fun u => [Str.ofString ",", u]).map (·.length)).sum ≤ 21 * l.length
  | [], _ => Nat.le_refl _
  | t :: l, h => by
    have h1 := h t (.head _)
    have h2 := pairs_len l fun s hs => h s (.tail _ hs)
    have h3 : (Str.ofString ",").length = 1 := by decide +kernel
    simp only [List.flatMap_cons, List.cons_append, List.nil_append, List.map_cons, List.sum_cons, List.length_cons, h3]
    omega
theorem join_len {t : Str} {l : List Str} (h : ∀ u ∈ t :: l, u.length ≤ 20) : (Txt.join (Str.ofString ",") (t :: l)).length ≤ 20 + 21 * l.length := by
  rw [join_comma, Str.length_append, cat_len]
  have h1 := h t (.head _)
  have h2 := pairs_len l fun u hu => h u (.tail _ hu)
  omega
theorem tables_long {c : Tbl} (h : c ∈ Tables) : Long (vals c) := by
  unfold Tables at h
  simp only [List.mem_cons, List.not_mem_nil, or_false] at h
  unfold Long
  rcases h with rfl | rfl | rfl | rfl | rfl <;> decide +kernel
theorem cat_one {prog : Program} {w : World} {A : Around} {E : Value → Shared → Prop} {s : Shared} {h₀ : Heap} {L a b : Addr} {m : Str → Option Value} {news : Led} {x : Value} {vs : List Value} {n1 n2 : Nat} {Q : Value → Shared → Prop} (F : Fr h₀ L s.heap m) (N : News h₀ L s.heap news) (ha : (a, listOf [x].toArray n1) ∈ news) (hb : (b, listOf vs.toArray n2) ∈ news) (hz : vs.length ≤ 1000)
    (h : ∀ D h', Fr h₀ L h' m → News h₀ L h' ((D, listOf (x :: vs).toArray 0) :: news) → (∀ p ∈ news, p.1 < D) → Q (.ref D) { s with heap := h' }) : wpAny (model prog w) A (binaryOp .Add (.ref a) (.ref b)) Q E s :=
  add_lists F N (News.isList N ha) (News.isList N hb) (fun h' F' N' => h _ h' F' N' fun p hp => Heap.lt_size (N p hp).1) (by simp only [sizeLine_eq, List.length_cons, List.length_nil]; omega)
theorem turn_fold {h₀ h : Heap} {L D0 D1 D3 L5 I d2 a : Addr} {t u : Tok} {X1 X2 X3 X4 : Addr × Obj} {it o3 o5 : Obj} {nl rq : Led} {U : Term} {Ts : List Term}
    (N : News h₀ L h ((D0, tupO [.str (Str.ofString "s") t, .int 0 u, .ref D1]) :: (D1, tupO [.ref d2, .ref a]) :: (D3, o3) :: (L5, o5) :: X1 :: X2 :: X3 :: X4 :: (nl ++ (I, it) :: rq))) (hT : TermIs nl (.ref d2) U) (hc : ChainIs rq (.ref a) Ts)
    (H3 : AllLt D3 ((L5, o5) :: X1 :: X2 :: X3 :: X4 :: (nl ++ (I, it) :: rq))) (H1 : AllLt D1 ((D3, o3) :: (L5, o5) :: X1 :: X2 :: X3 :: X4 :: (nl ++ (I, it) :: rq))) (H0 : AllLt D0 ((D1, tupO [.ref d2, .ref a]) :: (D3, o3) :: (L5, o5) :: X1 :: X2 :: X3 :: X4 :: (nl ++ (I, it) :: rq))) :
    ∃ rqN : Led, ChainIs rqN (.ref D0) (U :: Ts) ∧ (D3, o3) ∈ rqN ∧ (∀ p ∈ rq, p ∈ rqN) ∧ (∀ b o, (b, o) ∈ X1 :: X2 :: X3 :: X4 :: (nl ++ (I, it) :: rq) → Off b nl → Off b rq → Off b rqN) ∧ News h₀ L h ((I, it) :: X1 :: X2 :: X3 :: X4 :: rqN) := by
  refine ⟨(D0, tupO [.str (Str.ofString "s") t, .int 0 u, .ref D1]) :: (D1, tupO [.ref d2, .ref a]) :: (D3, o3) :: (nl ++ rq), .cons (.head _) (.tail _ (.head _)) (hT.mono fun p hp => .tail _ (.tail _ (.tail _ (List.mem_append_left _ hp)))) (hc.mono fun p hp => .tail _ (.tail _ (.tail _ (List.mem_append_right _ hp)))), .tail _ (.tail _ (.head _)), fun p hp => .tail _ (.tail _ (.tail _ (List.mem_append_right _ hp))), fun b o hb k1 k2 => off1 (gt_ne H0.2.2.2 hb) (off1 (gt_ne H1.2.2 hb) (off1 (gt_ne H3.2 hb) (offApp k1 k2))), cb_drop N ?_⟩
  refine sub1 ?_ (sub1 ?_ (sub1 ?_ (sub1 ?_ (sub1 ?_ (sub1 ?_ (sub1 ?_ (sub1 ?_ ?_)))))))
  focus (exact .tail _ (.tail _ (.tail _ (.tail _ (.tail _ (.tail _ (.tail _ (.tail _ (List.mem_append_right _ (.head _))))))))))
  focus k_mem
  focus k_mem
  focus k_mem
  focus k_mem
  focus k_mem
  focus k_mem
  focus k_mem
  exact fun p hp => .tail _ (.tail _ (.tail _ (.tail _ (.tail _ (.tail _ (.tail _ (.tail _ ((List.mem_append.mp hp).elim (fun x => List.mem_append_left _ x) fun x => List.mem_append_right _ (.tail _ x)))))))))
theorem nil_fold {h₀ h : Heap} {L D du : Addr} {t u : Tok} {od : Obj} {r : Led} (N : News h₀ L h ((du, od) :: (D, tupO [.str (Str.ofString "a") t, .int 0 u]) :: r)) : ∃ o, ChainIs [(D, o)] (.ref D) [] ∧ News h₀ L h ((du, od) :: (D, o) :: r) := ⟨_, .nil (.head _), N⟩
theorem fm7 (x : Int) : 0 ≤ Int.fmod x 7 ∧ Int.fmod x 7 < 7 := by
  rw [Int.fmod_eq_emod_of_nonneg _ (by decide)]
  omega
section
variable {prog : Program} {w : World} {A : Around} {E : Value → Shared → Prop} {s : Shared} {env : Env} {h₀ : Heap} {x : Str} {body : List Stmt} {Q : Flow → Shared → Prop}
theorem range_ind {I : Addr} {a : Int} {n : Nat} (J : Nat → (Str → Option Value) → Led → Prop)
    (turn : ∀ i m nx t h tk it, i < n → J i m nx → Off I nx → Fr h₀ env.locals h (fun y => if y = x then some (.int (a + (i : Int)) t) else m y) → News h₀ env.locals h ((I, it) :: nx) →
      wpAny (model prog w) A (execs body env) (UnrPost h₀ env.locals { s with heap := h, toks := tk } I it (fun m' n' => J (i + 1) m' n') Q) E { s with heap := h, toks := tk })
    (done : ∀ m nx h tk, J n m nx → Fr h₀ env.locals h m → News h₀ env.locals h nx → Q .next { s with heap := h, toks := tk }) :
    ∀ (k i : Nat) (m : Str → Option Value) (nx : Led), k + i = n → J i m nx → Off I nx → RangeRest prog w A E h₀ env x body Q s I a n k i m nx := by
  intro k
  induction k with
  | zero => intro i m nx e hJ _ h tk F N; exact done m nx h tk (by rw [show i = n by omega] at hJ; exact hJ) F N
  | succ k ih =>
    intro i m nx e hJ ho t h tk F N
    exact wpAny_mono (turn i m nx t h tk _ (by omega) hJ ho F N) (fun f s₃ p => unrPost_mono p fun m' n' o q => ih (i + 1) m' n' (by omega) q o) fun _ _ x => x
/-- a statement told by what it leaves -/
theorem cut {st : Stmt} {rest : List Stmt} {L : Addr} (J : (Str → Option Value) → Led → Prop)
    (h1 : ∀ Q' : Flow → Shared → Prop, (∀ m' nx' h' tk', J m' nx' → Fr h₀ L h' m' → News h₀ L h' nx' → Q' .next { s with heap := h', toks := tk' }) → wpAny (model prog w) A (exec st env) Q' E s)
    (h2 : ∀ m' nx' h' tk', J m' nx' → Fr h₀ L h' m' → News h₀ L h' nx' → wpAny (model prog w) A (execs rest env) Q E { s with heap := h', toks := tk' }) : wpAny (model prog w) A (execs (st :: rest) env) Q E s :=
  wpAny_execs_cons (h1 _ h2)
end
inductive LawJ (w : World) (xs ds bt bn bf bg y dn Dc : Nat) (HS : SymH) (nb : Bool) (c : Tbl) (rr : Led) (i : Nat) (m : Str → Option Value) (nx : Led) : Prop
  | mk (Ts : List Term) (dv : List Value) (cnt a du nt : Nat) (rq : Led) (Tx : List Str) (vT : List Value) (ob : Obj) (kvb : List (Str × Value)) : Has m [(Str.ofString "book", .ref xs), (Str.ofString "operators", .ref y), (Str.ofString "numbervars", .bool nb), (Str.ofString "names", .ref dn), (Str.ofString "cells", .ref Dc), (Str.ofString "rest", .ref a), (Str.ofString "due", .ref du)] →
      ChainIs rq (.ref a) Ts → StrsAre dv (Ts.map (told nb c)) → (∀ U ∈ Ts, OkI Tx U) → Ts.length = i → StrsAre vT Tx → ob.IsDictOf (PySem.strKind P0 w) kvb → FlatPairs PyData.str kvb (kdpD (tabOf Tx)) → TOk Tx → Tx.length ≤ 170 + i → Off bt rq → Off bn rq → (∀ p ∈ rr, p ∈ rq) → (du, listOf dv.toArray cnt) ∈ rq →
      nx = (xs, instObj 122 ds) :: (ds, symDict HS bt bn bf bg) :: (bt, listOf vT.toArray nt) :: (bn, ob) :: rq → LawJ w xs ds bt bn bf bg y dn Dc HS nb c rr i m nx
/-- what the first half of a turn leaves -/
inductive MidJ (w : World) (xs ds bt bn bf bg I : Nat) (HS : SymH) (nb : Bool) (c : Tbl) (base : List (Str × Value)) (rq : Led) (Tx : List Str) (m : Str → Option Value) (nx : Led) : Prop
  | mk (U : Term) (d2 nt : Nat) (tt : Tok) (nl : Led) (T2 : List Str) (vT : List Value) (ob : Obj) (kvb : List (Str × Value)) : Has m ((Str.ofString "side", .ref d2) :: (Str.ofString "told", .str (told nb c U) tt) :: base) → TermIs nl (.ref d2) U → OkI T2 U → (∀ (k : Nat) t, Tx[k]? = some t → T2[k]? = some t) → StrsAre vT T2 → ob.IsDictOf (PySem.strKind P0 w) kvb → FlatPairs PyData.str kvb (kdpD (tabOf T2)) → TOk T2 → T2.length ≤ Tx.length + 1 → Off bt nl → Off bn nl → Off I nl →
      nx = (xs, instObj 122 ds) :: (ds, symDict HS bt bn bf bg) :: (bt, listOf vT.toArray nt) :: (bn, ob) :: (nl ++ rq) → MidJ w xs ds bt bn bf bg I HS nb c base rq Tx m nx
set_option maxHeartbeats 8000000 in
theorem law : Law := by
  unfold Law
  refine defLaw (by rfl) ?_
  k_fill
  intro w s₀ s₁ mg mb G Y fa o pm cd doc dV kV ho hd hcd hD hmg hg args vals as hpre hlay hrd hwl hlo
  have KX : (Mine.hd.heap_1 w.params).In s₁.heap := Y
  k_behind G ho hd hcd hD hmg hpre hlay hrd hwl hlo cd
  (all_goals try k_fold)
  k_steps
  rename IntsAre _ (_ ++ _) => hCI
  obtain ⟨C, hCI, hClen, hCpos⟩ := cells_ok hCI
  rename Fr _ _ _ _ => lF
  rename News _ _ _ _ => lN
  rename_i Dc ws _ _ _ _
  replace lN := cb_drop (news := [(Dc, listOf ws.toArray 0)]) lN (by ksw_less)
  ((first | unfold Stop | unfold Stop2); k_dflt (refine' does_use ?Bx1 ?Fx1 ?Xx1 ?Nx1 ?Tx1 ?hkx1 symbols_spec ?pkx1 ?hdx1 ?hux1 ?_; (case Bx1 => k_asm); (case Fx1 => k_asm); (case Xx1 => k_asm); (case Nx1 => k_asm); (case Tx1 => k_asm); (case hkx1 => first | exact rfl | assumption); (case pkx1 => exact Pk.nil); (case hdx1 => ktr_room); (case hux1 => ktr_units)); intro xs ds bt bn bf bg k17 HS nt nf vT Fs ob kvb tf1 tf2 rr hsT hbn hfb hlb hF17 mbf mk17 hrr o1 o2 n1 n2 n3 n4 n5 hz9 tz9 F9 N9; (try dsimp only))
  k_steps
  ((first | unfold Stop | unfold Stop2); k_dflt (refine' does_use ?Bx2 ?Fx2 ?Xx2 ?Nx2 ?Tx2 ?hkx2 (ops_spec ?a1x2 ?a2x2 ?a3x2 ?a4x2 ?a5x2 ?a6x2 ?a7x2 ?a8x2 ?a9x2 ?a10x2 ?a11x2 ?a12x2 ?a13x2) ?pkx2 ?hdx2 ?hux2 ?_; (case Bx2 => k_asm); (case Fx2 => k_asm); (case Xx2 => k_asm); (case Nx2 => k_asm); (case Tx2 => k_asm); (case hkx2 => first | exact rfl | assumption); (case pkx2 => (refine' Pk.cons ?q1x2 (Pk.cons ?q2x2 (Pk.cons ?q3x2 (Pk.cons ?q4x2 Pk.nil))); (case q1x2 => kbt_split); (case q2x2 => kbt_split); (case q3x2 => kbt_split); (case q4x2 => kbt_split))); (case a1x2 => assumption); (case a2x2 => k_asm); (case a3x2 => assumption); (case a4x2 => k_asm); (case a5x2 => exact tok_f29); (case a6x2 => decide); (case a7x2 => k_all); (case a8x2 => k_all); (case a9x2 => k_ne); (case a10x2 => k_ne); (case a11x2 => k_ne); (case a12x2 => k_ne); (case a13x2 => k_ne); (case hdx2 => ktr_room); (case hux2 => ktr_units)); intro y dy bp bi bq HO op oq kp Tx vT2 nt2 ob2 kvb2 rr2 hsT2 hbn2 hfb2 hTok hTl hop h26 hoq hbp hbq my mdy mbp mbq hrr2 w3 w4 hz9 tz9 F9 N9; (try dsimp only))
  have hSt : Still w xs y bf k17 dy bp bi bq nf HO Fs tf1 tf2 op oq kp rr2 := .mk (hrr2 _ mbf) (hrr2 _ mk17) my mdy mbp mbq hF17 hop h26 hoq hbp hbq
  have mDc : (Dc, listOf ws.toArray 0) ∈ rr2 := hrr2 _ (hrr _ (.head _))
  clear mbf mk17 my mdy mbp mbq hF17 hop h26 hoq hbp hbq hsT hbn hfb hrr hrr2 o1 o2
  k_steps
  (unfold Stop; k_dflt (refine item_cell (by k_asm) (by k_mem) (by with_reducible assumption) (by omega) (by omega) (by with_reducible assumption) (by with_reducible assumption) ?_); intro _ _ _; k_steps)
  rename_i dn _ on0 lin _ _ hin fin0 l7 _ d1 _ o1 e1 _ _ i1 f1 l8 _ o2 e2 i2 f2 _ l9 _ o3 e3 i3 f3 _ l10 _ o4 e4 i4 f4 _ l11 _ o5 e5 i5 f5 _ l12 lrow _ lF lN l13
  have u1 : @Ne Nat dn bt := by k_ne
  have u2 : @Ne Nat dn bn := by k_ne
  have u3 : @Ne Nat xs dn := by k_ne
  have u4 : @Ne Nat ds dn := by k_ne
  have u5 : Off dn rr2 := allLt_ne (by krn_off)
  obtain ⟨RV, rl, hRVl, hRVo, hRVm, hoff, lN2⟩ := rows_fold (w := w) lN ⟨_, [], by unfold Tables; simp, i1, f1, e1⟩ ⟨_, [(1, Str.ofString "_0")], by unfold Tables; simp, i2, f2, e2⟩ ⟨_, [(0, Str.ofString "X"), (2, Str.ofString "_1")], by unfold Tables; simp, i3, f3, e3⟩ ⟨_, [(1, Str.ofString "_0"), (2, Str.ofString "_0_")], by unfold Tables; simp, i4, f4, e4⟩ ⟨_, [(3, Str.ofString "_0__"), (1, Str.ofString "_0"), (2, Str.ofString "_0_")], by unfold Tables; simp, i5, f5, e5⟩ l8 l9 l10 l11 l12 l13
  have p1 := offApp (hoff dn _ (by k_mem)) u5
  have p2 := offApp (hoff bt _ (by k_mem)) w3
  have p3 := offApp (hoff bn _ (by k_mem)) w4
  obtain ⟨rr3, h3⟩ : ∃ rr3 : Led, rr3 = rl ++ rr2 := ⟨_, rfl⟩
  rw [← h3] at p1 p2 p3
  have h3a : ∀ p ∈ rr2, p ∈ rr3 := by rw [h3]; exact app_right
  have h3b : ∀ p ∈ rl, p ∈ rr3 := fun p hp => by rw [h3]; exact List.mem_append_left _ hp
  replace lN2 := cb_drop (news := (dn, on0) :: (xs, instObj 122 ds) :: (ds, symDict HS bt bn bf bg) :: (bt, listOf vT2.toArray nt2) :: (bn, ob2) :: rr3) lN2 (by
    rw [h3]
    refine sub1 ?_ (sub1 ?_ (sub1 ?_ (sub1 ?_ (sub1 ?_ (subA ?_)))))
    focus (exact List.mem_append_right _ (by k_mem))
    focus (exact List.mem_append_right _ (by k_mem))
    focus (exact List.mem_append_right _ (by k_mem))
    focus (exact List.mem_append_right _ (by k_mem))
    focus (exact List.mem_append_right _ (by k_mem))
    ksw_less)
  have hSt3 := hSt.mono h3a
  have mDc3 := h3a _ mDc
  have hRVo3 : ∀ v ∈ RV, RowOk w rr3 v := fun v hv => let ⟨a, o, e, hm, hd⟩ := hRVo v hv; ⟨a, o, e, h3b _ hm, hd⟩
  have hRVm3 := h3b _ hRVm
  clear hRVo hRVm hSt mDc h3 h3a h3b hoff i1 f1 e1 i2 f2 e2 i3 f3 e3 i4 f4 e4 i5 f5 e5 l7 l8 l9 l10 l11 l12 l13 lN u5 w3 w4
  unfold Stop
  try dsimp only
  refine toks_any fun tk0 => ?_
  k_dflt (refine' storeX_L ?F7 ?N7 ?_ ?a7 ?b7; (case F7 => k_asm); (case N7 => k_asm); (case a7 => rfl); (case b7 => rfl); k_whole; intro h' F' N'; (try k_sweep))
  k_steps
  (unfold Stop; k_dflt (refine item_cell (by k_asm) (by k_mem) (by with_reducible assumption) (by omega) (by omega) (by with_reducible assumption) (by with_reducible assumption) ?_); intro _ _ _; k_steps)
  unfold Stop
  refine' item_row ?N8 ?m8 ?h08 ?h18 ?h28 ?_
  case N8 => k_asm
  case m8 => k_mem
  case h08 => exact (fm5 _).1
  case h18 => rw [hRVl]; exact (fm5 _).2.1
  case h28 => exact (fm5 _).2.2
  intro v9 hv9
  obtain ⟨ar, orr, rfl, hrm, kvr, c, hcT, hdr, hfr, hlr⟩ := hRVo3 v9 hv9
  try refine toks_any fun tk0 => ?_
  k_steps
  unfold Stop
  try refine toks_any fun tk0 => ?_
  obtain ⟨hcn1, hcn2, hcl⟩ := tables_nodup hcT
  have hne : @Ne Nat dn ar := fun e => p1 _ hrm e.symm
  refine' kt_update_K (knd := PySem.intKind _ _) PyProof.V.same_int ?F6 ?N6 ?U6 ?d6 ?f6 ?t6 ?n6 ?_ ?z6
  case F6 => k_asm
  case N6 => k_asm
  case U6 => k_updF
  case d6 => exact hin
  case f6 => exact fin0
  case t6 => exact TabAt.ofNews (by k_asm) (by (repeat (first | exact hrm | apply List.Mem.tail))) hlr hdr hfr
  case n6 => exact hne
  case z6 => exact tbl_fit hcl
  intro h6 on kn F6 N6 hdn hfn
  rw [merge_tables hcT] at hfn
  obtain ⟨rr, hrr⟩ : ∃ rr : Led, rr = (dn, on) :: rr3 := ⟨_, rfl⟩
  replace N6 := cb_drop (news := (xs, instObj 122 ds) :: (ds, symDict HS bt bn bf bg) :: (bt, listOf vT2.toArray nt2) :: (bn, ob2) :: rr) N6 (by rw [hrr]; ksw_less)
  have mDn : (dn, on) ∈ rr := by rw [hrr]; exact .head _
  have mDc4 : (Dc, listOf ws.toArray 0) ∈ rr := by rw [hrr]; exact .tail _ mDc3
  have hSt4 := hSt3.mono (show ∀ p ∈ rr3, p ∈ rr by rw [hrr]; exact sub2 sub3)
  have w1 : Off bt rr := by rw [hrr]; exact off1 u1 p2
  have w2 : Off bn rr := by rw [hrr]; exact off1 u2 p3
  clear hrr hv9 hne hcn1 hcn2 hcl hrm hdr hfr hlr hRVo3 hRVl hRVm3 hin fin0 p1 p2 p3 hSt3 mDc3 u1 u2 u3 u4
  k_steps
  (unfold Stop; k_dflt (refine item_cell (by k_asm) (by k_mem) (by with_reducible assumption) (by omega) (by omega) (by with_reducible assumption) (by with_reducible assumption) ?_); intro _ _ _; k_steps)
  unfold Stop
  k_dflt (refine range_K (by k_asm) (by k_asm) ?_)
  intro r9 h9 tk9 t9 u9 hr9 F9 N9 l9
  k_steps
  unfold Stop
  rename_i D _ l1 _ _ du _ l2 _ zF zN x2 _ hx2
  obtain ⟨nb, hnb⟩ := ex_bool F9 rfl
  obtain ⟨hb1, hb2⟩ := fm6 x2
  obtain ⟨hr1, hr2, hr3, hr4⟩ := rng6 hb1 hb2
  obtain ⟨oD, hch0, N10⟩ := nil_fold N9
  obtain ⟨rq0, hq0⟩ : ∃ rq : Led, rq = (du, listOf ([] : List Value).toArray 0) :: (D, oD) :: rr := ⟨_, rfl⟩
  replace N10 := cb_drop (news := (xs, instObj 122 ds) :: (ds, symDict HS bt bn bf bg) :: (bt, listOf vT2.toArray nt2) :: (bn, ob2) :: rq0) N10 (by rw [hq0]; ksw_less)
  have z1 : Off bt rq0 := by rw [hq0]; exact off1 (by k_ne) (off1 (by k_ne) w1)
  have z2 : Off bn rq0 := by rw [hq0]; exact off1 (by k_ne) (off1 (by k_ne) w2)
  have z3 : ChainIs rq0 (.ref D) [] := hch0.mono fun p hp => by rw [List.mem_singleton.mp hp, hq0]; exact .tail _ (.head _)
  have z4 : ∀ p ∈ rr, p ∈ rq0 := by rw [hq0]; exact sub2 (sub2 sub3)
  have z5 : (du, listOf ([] : List Value).toArray 0) ∈ rq0 := by rw [hq0]; exact .head _
  clear l1 l2 l9 zF zN N9 hq0 hch0 w1 w2
  refine iter_rangeUnr (by rfl) hr9 hr1 hr2 F9 N10 fun I l10 => ?_
  k_lt l10
  refine range_ind (J := LawJ w xs ds bt bn bf bg y dn Dc HS nb c rr) ?turn ?done _ 0 _ _ (by omega) (.mk [] [] 0 D du nt2 rq0 Tx vT2 ob2 kvb2 ⟨rfl, rfl, hnb, rfl, rfl, rfl, rfl, trivial⟩ z3 .nil (fun U hU => nomatch hU) rfl hsT2 hbn2 hfb2 hTok hTl z1 z2 z4 z5 rfl) ?off
  case off => k_all
  case turn =>
    clear hsT2 hbn2 hfb2 hTok hTl F9 N10 hnb hb1 hb2 hr1 hr2 hr3 hr9 z1 z2 z3 z4 z5 l10
    intro i m nx t h tk it hi hJ hoff F N
    obtain ⟨Ts, dv, cnt, a, du, nt, rq, Tx, vT, ob, kvb, hm, hch, hdv, hok, hlen, hvT, hob, hfb, hTok, hTl, p1, p2, hsub, mdu, hnx⟩ := hJ
    rw [mlocs_form hm] at F
    subst hnx
    have hi6 : i < 6 := by omega
    clear hi hr4
    have mDn' := hsub _ mDn
    have mDc' := hsub _ mDc4
    replace N := cb_drop (news := (xs, instObj 122 ds) :: (ds, symDict HS bt bn bf bg) :: (bt, listOf vT.toArray nt) :: (bn, ob) :: (I, it) :: rq) N (by ksw_less)
    k_steps
    (unfold Stop; k_dflt (refine item_cell (by k_asm) (by k_mem) (by with_reducible assumption) (by omega) (by omega) (by with_reducible assumption) (by with_reducible assumption) ?_); intro _ _ _; k_steps)
    unfold Stop
    rename_i x3 _ hx3 _ lF lN
    obtain ⟨hk0, hk7⟩ := fm7 x3
    generalize Int.fmod x3 7 = K at lF hk0 hk7
    refine cut (h₀ := s₁.heap) (L := s₁.heap.objs.size) (MidJ w xs ds bt bn bf bg I HS nb c [(Str.ofString "book", .ref xs), (Str.ofString "operators", .ref y), (Str.ofString "numbervars", .bool nb), (Str.ofString "names", .ref dn), (Str.ofString "cells", .ref Dc), (Str.ofString "rest", .ref a), (Str.ofString "due", .ref du)] ((I, it) :: rq) Tx) (fun Q' hQ => ?one) ?two
    case one =>
      clear hx3 x3 N F
      k_steps
      · rename K < 4 => hk4
        unfold Stop
        refine str_small hk0 hk4 ?_
        intro _ _
        rename_i D2 _ l3 _ lF lN _ _
        obtain ⟨o2, hT2, lN2⟩ := v_fold lN
        replace lN2 := cb_drop (news := (xs, instObj 122 ds) :: (ds, symDict HS bt bn bf bg) :: (bt, listOf vT.toArray nt) :: (bn, ob) :: (D2, o2) :: (I, it) :: rq) lN2 (by ksw_less)
        have e1 : @Ne Nat D2 bt := by k_ne
        have e2 : @Ne Nat D2 bn := by k_ne
        have e3 : @Ne Nat D2 I := by k_ne
        clear l3 lN
        k_steps
        unfold Stop
        refine wpAny_execs_cons ?_
        k_steps
        unfold Stop
        k_dflt (refine in_tbl (TabAt.ofNews (by k_asm) (by k_mem) (by k_asm) (by k_asm) (by k_asm)) (fun t9 l9 => ?_) (fun l9 => ?_))
        · k_steps
          unfold Stop
          k_dflt (refine item_tbl (TabAt.ofNews (by k_asm) (by k_mem) (by k_asm) (by k_asm) (by k_asm)) (by assumption) ?_)
          intro u9
          k_steps
          have e9 := told_hit (nb := nb) l9
          subst e9
          rename Fr _ _ _ _ => kF
          rename News _ _ _ _ => kN
          exact hQ _ _ _ _ (.mk (.v K) D2 nt u9 [(D2, o2)] Tx vT ob kvb ⟨rfl, rfl, rfl, rfl, rfl, rfl, rfl, rfl, rfl, trivial⟩ hT2 (.v hk0 hk4) (fun _ _ h => h) hvT hob hfb hTok (Nat.le_succ _) (off1 e1 (List.forall_mem_nil _)) (off1 e2 (List.forall_mem_nil _)) (off1 e3 (List.forall_mem_nil _)) rfl) kF kN
        · k_steps
          unfold Stop
          refine whl_go ?_
          rename Fr _ _ _ _ => kF
          rename News _ _ _ _ => kN
          have hlen9 := len_small hk0 hk4
          have hsh := tables_short hcT
          refine whl_use (TurnW ((Str.ofString "side", .ref D2) :: [(Str.ofString "book", .ref xs), (Str.ofString "operators", .ref y), (Str.ofString "numbervars", .bool nb), (Str.ofString "names", .ref dn), (Str.ofString "cells", .ref Dc), (Str.ofString "rest", .ref a), (Str.ofString "due", .ref du)]) c K ((xs, instObj 122 ds) :: (ds, symDict HS bt bn bf bg) :: (bt, listOf vT.toArray nt) :: (bn, ob) :: (D2, o2) :: (I, it) :: rq)) 4 _ kF kN (by first | passes_own | with_unfolding_all passes_own) sub3 (.mk _ _ ⟨rfl, rfl, rfl, rfl, rfl, rfl, rfl, rfl, rfl, trivial⟩ ?wa ?wb ?wc rfl) ?turnW
          case wa => rw [Str.length_append, hlen9]; decide +kernel
          case wb => unfold nameT; rw [l9]; rfl
          case wc => rw [Str.length_append, hlen9]; decide +kernel
          case turnW =>
            clear kF kN
            intro n m nx h tk hJ F N
            obtain ⟨t, tt, hm, hg1, hg2, hg3, hnx⟩ := hJ
            rw [mlocs_form hm] at F
            subst hnx
            k_steps
            unfold Stop
            k_dflt (refine call_values_tab (knd := PySem.intKind _ _) (enc := PyData.int) (TabAt.ofNews (by k_asm) (by k_mem) (by k_asm) (by k_asm) (by k_asm)) (by k_asm) (by k_asm) ?_)
            intro h9 o9 hv9 F9 N9
            replace N9 := kti_tail N9
            k_steps
            unfold Stop
            k_dflt (refine in_vals (by rfl) (by k_asm) (by k_asm) (by assumption) (by k_mem) (by k_asm) (by k_asm) (fun l9 h9 t9 F9 N9 => ?_) (fun l9 h9 t9 F9 N9 => ?_))
            · k_steps
              rename Fr _ _ _ _ => kF
              rename News _ _ _ _ => kN
              obtain ⟨hn, hgs⟩ := grow_step hsh l9 hg1
              refine whl_stop _ kF kN sub3 (.mk (n - 1) (Nat.sub_lt hn Nat.one_pos) (.mk _ _ ⟨rfl, rfl, rfl, rfl, rfl, rfl, rfl, rfl, rfl, trivial⟩ ?_ (hgs ▸ hg2) ?_ rfl))
              · rw [Str.length_append, one_mark]; omega
              · by_cases h5 : 5 ≤ t.length
                · rw [short_any hsh h5] at l9; cases l9
                · rw [Str.length_append, one_mark]; omega
            · k_steps
              rename Fr _ _ _ _ => kF
              rename News _ _ _ _ => kN
              have e9 : t = told nb c (.v K) := by show t = nameT c K; rw [← hg2, grow_stop l9]
              subst e9
              exact hQ _ _ _ _ (.mk (.v K) D2 nt tt [(D2, o2)] Tx vT ob kvb ⟨rfl, rfl, rfl, rfl, rfl, rfl, rfl, rfl, rfl, trivial⟩ hT2 (.v hk0 hk4) (fun _ _ h => h) hvT hob hfb hTok (Nat.le_succ _) (off1 e1 (List.forall_mem_nil _)) (off1 e2 (List.forall_mem_nil _)) (off1 e3 (List.forall_mem_nil _)) rfl) kF kN
      · (unfold Stop; k_dflt (refine item_cell (by k_asm) (by k_mem) (by with_reducible assumption) (by omega) (by omega) (by with_reducible assumption) (by with_reducible assumption) ?_); intro _ _ _; k_steps)
        unfold Stop
        refine' item_row ?N8 ?m8 (fmd6 _).1 ?h18 (fmd6 _).2.2 ?_
        case N8 => k_asm
        case m8 => k_mem
        case h18 => exact (fmd6 _).2.1
        intro v9 hv9
        obtain ⟨f9, tf9, hv9', hf9⟩ := six hv9
        clear hv9
        subst hv9'
        rename News _ _ _ _ => lN
        replace lN := cb_drop (news := (xs, instObj 122 ds) :: (ds, symDict HS bt bn bf bg) :: (bt, listOf vT.toArray nt) :: (bn, ob) :: (I, it) :: rq) lN (by ksw_less)
        refine toks_any fun tk0 => ?_
        k_steps
        · rename_i hk6 Z1 _ H1 Z2 _ H2 D2 _ H3 _ lF lN
          have hnl9 := num_len hf9
          obtain ⟨nl, hT2, hoffN, lN2⟩ := fn_fold i_is lN H1 H2 H3
          have e1 : Off bt nl := hoffN bt _ (by k_mem)
          have e2 : Off bn nl := hoffN bn _ (by k_mem)
          have e3 : Off I nl := hoffN I _ (by k_mem)
          replace lN2 := cb_drop (news := (xs, instObj 122 ds) :: (ds, symDict HS bt bn bf bg) :: (bt, listOf vT.toArray nt) :: (bn, ob) :: (nl ++ (I, it) :: rq)) lN2 (sub1 (List.mem_append_right _ (by k_mem)) (sub1 (List.mem_append_right _ (by k_mem)) (sub1 (List.mem_append_right _ (by k_mem)) (sub1 (List.mem_append_right _ (by k_mem)) (subA (by first | ksw_less | fail))))))
          clear H1 H2 H3 hoffN lN
          unfold Stop
          refine wpAny_execs_cons ?_
          k_steps
          · unfold Stop
            rename nb = true => hnb1
            rename f9 ≥ 0 => hf0
            obtain ⟨_, _, g3, g4⟩ := num26 (figs_pos hf9 hf0)
            obtain ⟨g5, g6⟩ := fm26 f9
            refine KXi.item (n := 26) (by decide +kernel) (by omega) (by omega) (by decide) ?_
            intro kxiE
            k_steps
            · rename f9 > 25 => hf1
              unfold Stop
              refine str_fig g3 ?_
              intro _ _
              k_steps
              rename Fr _ _ _ _ => kF
              rename News _ _ _ _ => kN
              rw [told_hi (nb := nb) (c := c) hf9 hnb1 hf0 hf1] at kF
              exact hQ _ _ _ _ (.mk (.fn (.i f9)) D2 nt _ nl Tx vT ob kvb ⟨rfl, rfl, rfl, rfl, rfl, rfl, rfl, rfl, rfl, trivial⟩ hT2 (.fi hf9) (fun _ _ h => h) hvT hob hfb hTok (Nat.le_succ _) e1 e2 e3 rfl) kF kN
            · rename ¬ f9 > 25 => hf1
              rename Fr _ _ _ _ => kF
              rename News _ _ _ _ => kN
              rw [told_lo (nb := nb) (c := c) hf9 hnb1 hf0 hf1] at kF
              exact hQ _ _ _ _ (.mk (.fn (.i f9)) D2 nt _ nl Tx vT ob kvb ⟨rfl, rfl, rfl, rfl, rfl, rfl, rfl, rfl, rfl, trivial⟩ hT2 (.fi hf9) (fun _ _ h => h) hvT hob hfb hTok (Nat.le_succ _) e1 e2 e3 rfl) kF kN
          · unfold Stop
            rename ¬ f9 ≥ 0 => hf0
            refine str_fig (figs_nums hf9) ?_
            intro _ _
            k_steps
            rename Fr _ _ _ _ => kF
            rename News _ _ _ _ => kN
            rw [told_neg (nb := nb) (c := c) (f := f9) (fun e => hf0 e.2)] at kF
            exact hQ _ _ _ _ (.mk (.fn (.i f9)) D2 nt _ nl Tx vT ob kvb ⟨rfl, rfl, rfl, rfl, rfl, rfl, rfl, rfl, rfl, trivial⟩ hT2 (.fi hf9) (fun _ _ h => h) hvT hob hfb hTok (Nat.le_succ _) e1 e2 e3 rfl) kF kN
          · unfold Stop
            rename nb = false => hnb1
            refine str_fig (figs_nums hf9) ?_
            intro _ _
            k_steps
            rename Fr _ _ _ _ => kF
            rename News _ _ _ _ => kN
            rw [told_neg (nb := nb) (c := c) (f := f9) (fun e => by rw [hnb1] at e; exact Bool.false_ne_true e.1)] at kF
            exact hQ _ _ _ _ (.mk (.fn (.i f9)) D2 nt _ nl Tx vT ob kvb ⟨rfl, rfl, rfl, rfl, rfl, rfl, rfl, rfl, rfl, trivial⟩ hT2 (.fi hf9) (fun _ _ h => h) hvT hob hfb hTok (Nat.le_succ _) e1 e2 e3 rfl) kF kN
        · rename_i hk6
          ((first | unfold Stop | unfold Stop2); k_dflt (refine' does_use ?Bx3 ?Fx3 ?Xx3 ?Nx3 ?Tx3 ?hkx3 (atomG ?a1x3 ?a2x3 ?a3x3 ?a4x3 ?a5x3 ?a6x3 ?a7x3 ?a8x3 ?a9x3 ?a10x3 ?a11x3 ?a12x3 ?a13x3 ?a14x3 ?a15x3) ?pkx3 ?hdx3 ?hux3 ?_; (case Bx3 => k_asm); (case Fx3 => k_asm); (case Xx3 => k_asm); (case Nx3 => k_asm); (case Tx3 => k_asm); (case hkx3 => first | exact rfl | assumption); (case pkx3 => (refine' Pk.cons ?q1x3 (Pk.cons ?q2x3 (Pk.cons ?q3x3 (Pk.cons ?q4x3 Pk.nil))); (case q1x3 => kbt_split); (case q2x3 => kbt_split); (case q3x3 => kbt_split); (case q4x3 => kbt_split))); (case a1x3 => assumption); (case a2x3 => k_asm); (case a3x3 => assumption); (case a4x3 => k_asm); (case a5x3 => assumption); (case a6x3 => exact Nat.le_refl _); (case a7x3 => omega); (case a8x3 => decide +kernel); (case a9x3 => k_all); (case a10x3 => k_all); (case a11x3 => k_ne); (case a12x3 => k_ne); (case a13x3 => k_ne); (case a14x3 => k_ne); (case a15x3 => k_ne); (case hdx3 => ktr_room); (case hux3 => ktr_units)); intro i9 tk9 T9 vs9 nt9 on9 kv9 hi9 hi0 hig hT9 hl9 hA9 hs9 hd9 hf9 hz9 tz9 F9 N9; (try dsimp only))
          k_steps
          rename_i Z1 _ H1 Z2 _ H2 D2 _ H3 _ lF lN
          obtain ⟨nl, hT2, hoffN, lN2⟩ := fn_fold a_is lN H1 H2 H3
          have e1 : Off bt nl := hoffN bt _ (by k_mem)
          have e2 : Off bn nl := hoffN bn _ (by k_mem)
          have e3 : Off I nl := hoffN I _ (by k_mem)
          replace lN2 := cb_drop (news := (xs, instObj 122 ds) :: (ds, symDict HS bt bn bf bg) :: (bt, listOf vs9.toArray nt9) :: (bn, on9) :: (nl ++ (I, it) :: rq)) lN2 (sub1 (List.mem_append_right _ (by k_mem)) (sub1 (List.mem_append_right _ (by k_mem)) (sub1 (List.mem_append_right _ (by k_mem)) (sub1 (List.mem_append_right _ (by k_mem)) (subA (by first | ksw_less | fail))))))
          clear H1 H2 H3 hoffN lN
          unfold Stop
          refine wpAny_execs_cons ?_
          k_steps
          · have hi9m : i9 < 100000 := by have := (List.getElem?_eq_some_iff.mp hig).1; omega
            rename Fr _ _ _ _ => kF
            rename News _ _ _ _ => kN
            exact hQ _ _ _ _ (.mk (.fn (.a i9)) D2 nt9 _ nl T9 vs9 on9 kv9 ⟨rfl, rfl, rfl, rfl, rfl, rfl, rfl, rfl, rfl, trivial⟩ hT2 (.fa hi0 hi9m hig) (atomTo_mono hA9) hs9 hd9 hf9 hT9 (hl9) e1 e2 e3 rfl) kF kN
          · have hi9m : i9 < 100000 := by have := (List.getElem?_eq_some_iff.mp hig).1; omega
            rename Fr _ _ _ _ => kF
            rename News _ _ _ _ => kN
            exact hQ _ _ _ _ (.mk (.fn (.a i9)) D2 nt9 _ nl T9 vs9 on9 kv9 ⟨rfl, rfl, rfl, rfl, rfl, rfl, rfl, rfl, rfl, trivial⟩ hT2 (.fa hi0 hi9m hig) (atomTo_mono hA9) hs9 hd9 hf9 hT9 (hl9) e1 e2 e3 rfl) kF kN
    case two =>
      clear lF lN hk0 hk7 hvT hob hfb hTok hx3 N F
      intro m2 nx2 h2 tk2 hM F N
      obtain ⟨U, d2, nt2, tt, nl, T2, vT2, ob2, kvb2, hm2, hT2, hU, hmono, hvT, hob, hfb, hTok, hTl2, q1, q2, q3, hnx⟩ := hM
      rw [mlocs_form hm2] at F
      subst hnx
      have mdu2 : (du, listOf dv.toArray cnt) ∈ nl ++ (I, it) :: rq := List.mem_append_right _ (.tail _ mdu)
      have hdvl : dv.length ≤ 5 := by rw [hdv.length, List.length_map]; omega
      k_steps
      unfold Stop
      k_dflt (refine cat_one (by k_asm) (by k_asm) (by k_mem) (by k_mem) (by omega) ?_)
      intro D3 _ F9 N9 H3
      k_lt H3
      k_steps
      rename_i D1 _ H1 D0 _ H0 _ kF kN
      obtain ⟨rqN, hchN, mduN, hsubN, hoffN, kN2⟩ := turn_fold kN hT2 hch H3 H1 H0
      have r1 : Off bt rqN := hoffN bt _ (by k_mem) q1 p1
      have r2 : Off bn rqN := hoffN bn _ (by k_mem) q2 p2
      have r3 : Off I rqN := hoffN I it (.tail _ (.tail _ (.tail _ (.tail _ (List.mem_append_right _ (.head _)))))) q3 fun p hp => hoff p (.tail _ (.tail _ (.tail _ (.tail _ hp))))
      clear kN H3 H1 H0 hoffN
      unfold Stop
      refine UnrEnd.intro kF kN2 ((xs, instObj 122 ds) :: (ds, symDict HS bt bn bf bg) :: (bt, listOf vT2.toArray nt2) :: (bn, ob2) :: rqN) sub3 ?offT (.mk (U :: Ts) _ 0 D0 D3 nt2 rqN T2 vT2 ob2 kvb2 ⟨rfl, rfl, rfl, rfl, rfl, rfl, rfl, trivial⟩ hchN (.cons _ _ hdv) (List.forall_mem_cons.mpr ⟨hU, fun V hV => (hok V hV).mono hmono⟩) (by rw [List.length_cons, hlen]) hvT hob hfb hTok (by omega) r1 r2 (fun p hp => hsubN p (hsub p hp)) mduN rfl)
      exact off1 (off_ne hoff (.head _)) (off1 (off_ne hoff (.tail _ (.head _))) (off1 (off_ne hoff (.tail _ (.tail _ (.head _)))) (off1 (off_ne hoff (.tail _ (.tail _ (.tail _ (.head _))))) r3)))
  case done =>
    clear hsT2 hbn2 hfb2 hTok hTl F9 N10 hnb hb1 hb2 hr1 hr2 hr9 z1 z2 z3 z4 z5 l10
    intro m nx h tk hJ F N
    obtain ⟨Ts, dv, cnt, a, du, nt, rq, Tx, vT, ob, kvb, hm, hch, hdv, hok, hlen, hvT, hob, hfb, hTok, hTl, p1, p2, hsub, mdu, hnx⟩ := hJ
    rw [mlocs_form hm] at F
    subst hnx
    have mDn' := hsub _ mDn
    obtain ⟨hc1, hc2, hcl⟩ := tables_nodup hcT
    k_steps
    ((first | unfold Stop | unfold Stop2); k_dflt (refine' does_use ?Bx4 ?Fx4 ?Xx4 ?Nx4 ?Tx4 ?hkx4 (init_spec ?a1x4 ?a2x4 ?a3x4 ?a4x4 ?a5x4 ?a6x4 ?a7x4) ?pkx4 ?hdx4 ?hux4 ?_; (case Bx4 => k_asm); (case Fx4 => k_asm); (case Xx4 => k_asm); (case Nx4 => k_asm); (case Tx4 => k_asm); (case hkx4 => first | exact rfl | assumption); (case pkx4 => exact Pk.nil); (case a1x4 => k_mem); (case a2x4 => exact hdn); (case a3x4 => exact hfn); (case a4x4 => exact lin); (case a5x4 => exact hc1); (case a6x4 => exact hc2); (case a7x4 => exact hcl); (case hdx4 => ktr_room); (case hux4 => ktr_units)); intro x dx an at' lo lw HW on2 ot kn2 kt ta rr9 hdn2 hfn2 hln2 hdt hft hlt man mat hrr9 odx nxd hz9 tz9 F9 N9; (try dsimp only))
    k_steps
    obtain ⟨T0, Ts0, hTs⟩ : ∃ T0 Ts0, Ts = T0 :: Ts0 := by
      cases Ts with
      | nil => rw [List.length_nil] at hlen; omega
      | cons T0 Ts0 => exact ⟨T0, Ts0, rfl⟩
    subst hTs
    rw [List.length_cons] at hlen
    have hrq9 : ∀ p ∈ rq, p ∈ rr9 := fun p hp => hrr9 _ (.tail _ (.tail _ (.tail _ (.tail _ hp))))
    have hBk := hSt4.books (fun p hp => hrq9 p (hsub p hp)) (hrr9 _ (.head _)) (hrr9 _ (.tail _ (.head _))) (hrr9 _ (.tail _ (.tail _ (.head _))))
    have hch9 := hch.mono hrq9
    have mdu9 := hrq9 _ mdu
    have hsh := tables_short hcT
    have hlg := tables_long hcT
    ((first | unfold Stop | unfold Stop2); k_dflt (refine' does_use ?Bx5 ?Fx5 ?Xx5 ?Nx5 ?Tx5 ?hkx5 (text_spec (l := 0) ?a1x5 ?a2x5 ?a3x5 ?a4x5 ?a5x5 ?a6x5 ?a7x5 ?a8x5 ?a9x5 ?a10x5 ?a11x5 ?a12x5 ?a13x5 ?a14x5 ?a15x5 ?a16x5 ?a17x5 ?a18x5) ?pkx5 ?hdx5 ?hux5 ?_; (case Bx5 => k_asm); (case Fx5 => k_asm); (case Xx5 => k_asm); (case Nx5 => k_asm); (case Tx5 => k_asm); (case hkx5 => first | exact rfl | assumption); (case pkx5 => (refine' Pk.cons ?q1x5 (Pk.cons ?q2x5 Pk.nil); (case q1x5 => kbt_split); (case q2x5 => kbt_split))); (case a1x5 => exact hBk); (case a2x5 => exact man); (case a3x5 => exact mat); (case a4x5 => exact hsh); (case a5x5 => exact hlg); (case a6x5 => exact hdn2); (case a7x5 => exact hfn2); (case a8x5 => exact hln2); (case a9x5 => exact hdt); (case a10x5 => exact hft); (case a11x5 => exact hlt); (case a12x5 => exact hvT); (case a13x5 => exact hTok.1); (case a14x5 => exact hch9); (case a15x5 => exact fun U hU => (hok U hU).okT); (case a16x5 => omega); (case a17x5 => exact odx); (case a18x5 => exact nxd); (case hdx5 => ktr_room); (case hux5 => ktr_units)); intro tk5 hz9 tz9 F9 N9; (try dsimp only))
    have htw : ∀ u ∈ (T0 :: Ts0).map (told nb c), u.length ≤ 20 := fun u hu => by
      obtain ⟨U, hU, rfl⟩ := List.mem_map.mp hu
      exact told_len hsh hlg (hok U hU)
    have hjw : (((T0 :: Ts0).map (told nb c)).map (·.length)).sum + ((T0 :: Ts0).map (told nb c)).length ≤ 1048576 := by
      have := weight htw
      rw [List.length_map, List.length_cons] at this ⊢
      omega
    have hjl : (Txt.join (Str.ofString ",") ((T0 :: Ts0).map (told nb c))).length ≤ 2000 := by
      have h := join_len (t := told nb c T0) (l := Ts0.map (told nb c)) htw
      rw [List.length_map] at h
      exact Nat.le_trans h (by omega)
    rw [show Txt.join (Str.ofString "") (rend nb c (.lst (T0 :: Ts0))) = Str.ofString "[" ++ Txt.join (Str.ofString ",") ((T0 :: Ts0).map (told nb c)) ++ Str.ofString "]" from law_eq hok]
    k_steps
    unfold Stop
    k_dflt (refine join_listW (News.isList (by k_asm) mdu9) hdv (by decide +kernel) hjw ?_)
    intro t9 k9
    k_steps
end
end Mine
section
set_option maxHeartbeats 8000000
namespace Mine
local macro_rules | `(tactic| k_head) => `(tactic| o_head (kHook hd.heap_1 [2, 3, 15, 17, 18, 20, 21, 22, 24, 25, 27, 28, 29, 31, 32, 34, 35, 43, 45, 46, 48, 49, 50, 52, 53, 55, 56, 57, 59, 60, 62, 63, 64, 66, 67, 69, 70, 71, 73, 74, 76, 77, 78, 80, 81, 83, 84, 85, 87, 88, 90, 91, 92, 94, 95, 97, 98, 99, 101, 102, 104, 105, 106, 108, 109, 111, 112, 113, 115, 116, 118, 119, 120, 121, 122, 123, 124, 127, 129, 130, 132, 133, 134, 136, 137, 139, 140, 141, 143, 144, 146, 147, 148, 150, 151, 153, 154, 155, 157, 158, 160, 161, 162, 164, 165, 167, 168, 169, 171, 172, 174, 175, 176, 178, 179, 181, 182, 183, 185, 186, 188, 189, 190, 192, 193, 195, 196, 197, 198, 199, 200, 202, 203, 205, 206, 207, 209, 210, 212, 213, 214, 216, 217, 219, 220, 228, 229, 231, 232, 234, 235, 236, 238, 239, 241, 242, 243, 245, 246, 248, 249, 250, 252, 253, 255, 256, 257, 259, 260, 262, 263, 264, 266, 267, 269, 270, 271, 273, 274, 276, 277, 278, 280, 281, 283, 284, 285, 286, 287, 288, 289, 292, 294, 295, 297, 298, 299, 301, 302, 304, 305, 306, 307, 309, 310, 312, 313, 314, 316, 317, 319, 320, 321, 323, 324, 326, 327, 328, 330, 331, 333, 334, 342, 343, 345, 346, 348, 349, 350, 351, 353, 354, 356, 357, 358, 360, 361, 363, 364, 365, 367, 368, 370, 371, 372, 374, 375, 377, 378, 379, 381, 382, 384, 385, 386, 388, 389, 391, 392, 393, 395, 396, 398, 399, 400, 402, 403, 405, 406, 407, 409, 410, 412, 413, 414, 416, 417, 419, 420, 421, 423, 424, 426, 427, 428, 430, 431, 433, 434, 435, 437, 438, 440, 441, 442, 444, 445, 447, 448, 449, 451, 452, 454, 455, 456, 458, 459, 461, 462, 463, 465, 466, 468, 469, 470, 471, 472, 473, 474, 477, 478, 480, 481, 483, 484, 485, 488, 489] (fun _ => by kernel_rfl)))
noncomputable def holds.tw357486453476387696 : Unit := ()
noncomputable def holds.tw17305961708015924362 : Unit := ()
noncomputable def holds.tw18217167824868444337 : Unit := ()
noncomputable def holds.tw10990347243850578203 : Unit := ()
noncomputable def holds.tw13153363017490239224 : Unit := ()
noncomputable def holds.tw16793062839414302242 : Unit := ()
noncomputable def holds.tw13606626462787063055 : Unit := ()
noncomputable def holds.tw1305225004803105697 : Unit := ()
noncomputable def holds.tw9431307246826503309 : Unit := ()
noncomputable def holds.tw1291383553396736706 : Unit := ()
noncomputable def holds.tw2179422393195500663 : Unit := ()
noncomputable def holds.tw14864324585774115465 : Unit := ()
noncomputable def holds.tw12437931467358371214 : Unit := ()
noncomputable def holds.tw2753018875883170955 : Unit := ()
noncomputable def holds.tw8844817923287653750 : Unit := ()
noncomputable def holds.tw1621136399060944247 : Unit := ()
noncomputable def holds.tw12008902284401382014 : Unit := ()
noncomputable def holds.tw16880556292197207165 : Unit := ()
noncomputable def holds.tw12788872388335264594 : Unit := ()
noncomputable def holds.tw3704581324316531828 : Unit := ()
noncomputable def holds.tw11566098377363298415 : Unit := ()
noncomputable def holds.tw5768289875352899849 : Unit := ()
noncomputable def holds.tw1357463484097335404 : Unit := ()
noncomputable def holds.tw3046069397481822717 : Unit := ()
noncomputable def holds.tw11822188140940861840 : Unit := ()
noncomputable def holds.tw4904949301828912168 : Unit := ()
noncomputable def holds.tw1118671588950128205 : Unit := ()
noncomputable def holds.tw6330134614895140133 : Unit := ()
noncomputable def holds.tw12929723366055764138 : Unit := ()
noncomputable def holds.tw12941468149822085856 : Unit := ()
noncomputable def holds.tw4952593789767209597 : Unit := ()
noncomputable def holds.tw10009309266167291388 : Unit := ()
noncomputable def holds.tw15733542881966949079 : Unit := ()
noncomputable def holds.tw14064534554856164141 : Unit := ()
noncomputable def holds.tw16725066886706607050 : Unit := ()
noncomputable def holds.tw2167384251425162797 : Unit := ()
noncomputable def holds.tw11021402016762074336 : Unit := ()
noncomputable def holds.tw5619803957841784048 : Unit := ()
noncomputable def holds.tw15659084048362614264 : Unit := ()
noncomputable def holds.tw15402825562841796884 : Unit := ()
noncomputable def holds.tw14635519672683665818 : Unit := ()
noncomputable def holds.tw1477864382951527211 : Unit := ()
noncomputable def holds.tw4753448620645791293 : Unit := ()
noncomputable def holds.tw2963349702327202441 : Unit := ()
noncomputable def holds.tw13757568721421367004 : Unit := ()
noncomputable def holds.tw9930548314228155742 : Unit := ()
noncomputable def holds.tw3529921767576855348 : Unit := ()
noncomputable def holds.tw4374827463496512255 : Unit := ()
noncomputable def holds.tw12736823529576279204 : Unit := ()
noncomputable def holds.tw15421342739227911939 : Unit := ()
noncomputable def holds.tw18202751451028033538 : Unit := ()
noncomputable def holds.tw7366336091430424897 : Unit := ()
noncomputable def holds.tw10705619171732726748 : Unit := ()
noncomputable def holds.tw1986877004247180340 : Unit := ()
noncomputable def holds.tw915018914566706432 : Unit := ()
noncomputable def holds.tw13281364814482169325 : Unit := ()
noncomputable def holds.tw10531532615022067580 : Unit := ()
noncomputable def holds.tw8218819101457601776 : Unit := ()
noncomputable def holds.tw143733397751180983 : Unit := ()
noncomputable def holds.tw14271935136423247726 : Unit := ()
noncomputable def holds.tw2562329033357795767 : Unit := ()
noncomputable def holds.tw11862014420714201226 : Unit := ()
noncomputable def holds.tw9140063382869304120 : Unit := ()
noncomputable def holds.tw10645105620128953169 : Unit := ()
noncomputable def holds.tw10292701021901942622 : Unit := ()
noncomputable def holds.tw15462992800728643659 : Unit := ()
noncomputable def holds.tw3256209041318659551 : Unit := ()
noncomputable def holds.tw15326264675407861456 : Unit := ()
noncomputable def holds.tw13563289320671947111 : Unit := ()
noncomputable def holds.tw7516632072315021061 : Unit := ()
noncomputable def holds.tw8087273147054526846 : Unit := ()
noncomputable def holds.tw12657093848384798476 : Unit := ()
noncomputable def holds.tw9259533211598610082 : Unit := ()
noncomputable def holds.tw12540800736699631050 : Unit := ()
noncomputable def holds.tw341249449185904685 : Unit := ()
noncomputable def holds.tw2511256036297951264 : Unit := ()
noncomputable def holds.tw14786066558164337950 : Unit := ()
noncomputable def holds.tw11379536335273661636 : Unit := ()
noncomputable def holds.tw10824115321126796680 : Unit := ()
noncomputable def holds.tw14642846902033847964 : Unit := ()
noncomputable def holds.tw10491065262344570346 : Unit := ()
noncomputable def holds.tw960582308587345451 : Unit := ()
noncomputable def holds.tw17417429595627488627 : Unit := ()
noncomputable def holds.tw6396523623945614605 : Unit := ()
noncomputable def holds.tw10698829266838348154 : Unit := ()
noncomputable def holds.tw5225467491883748592 : Unit := ()
noncomputable def holds.tw8943767207682116370 : Unit := ()
noncomputable def holds.tw1569810199879761147 : Unit := ()
noncomputable def holds.tw13942211991455542721 : Unit := ()
noncomputable def holds.tw6357344898813262543 : Unit := ()
noncomputable def holds.tw10981351503976158137 : Unit := ()
noncomputable def holds.tw14607219995997415800 : Unit := ()
noncomputable def holds.tw8393340031374782525 : Unit := ()
noncomputable def holds.tw14394845925615563878 : Unit := ()
noncomputable def holds.tw16315053957116525436 : Unit := ()
noncomputable def holds.tw6159885450047824267 : Unit := ()
noncomputable def holds.tw14411328915609312922 : Unit := ()
noncomputable def holds.tw7405762614669717487 : Unit := ()
noncomputable def holds.tw185807328385624810 : Unit := ()
noncomputable def holds.tw151567797773009622 : Unit := ()
noncomputable def holds.tw3930379177928381544 : Unit := ()
noncomputable def holds.tw1032644102275906610 : Unit := ()
noncomputable def holds.tw15477653585598255317 : Unit := ()
noncomputable def holds.tw7058599786907716777 : Unit := ()
noncomputable def holds.tw949623864930693503 : Unit := ()
noncomputable def holds.tw5635654813233479639 : Unit := ()
noncomputable def holds.tw2682973687022302978 : Unit := ()
noncomputable def holds.tw17551835440721493442 : Unit := ()
noncomputable def holds.tw2395783193375807797 : Unit := ()
noncomputable def holds.tw3081346186701454755 : Unit := ()
noncomputable def holds.tw854715265852234644 : Unit := ()
noncomputable def holds.tw10274680400919065884 : Unit := ()
noncomputable def holds.tw17148229171239856432 : Unit := ()
noncomputable def holds.tw2976685253332725484 : Unit := ()
noncomputable def holds.tw11968577826497805164 : Unit := ()
noncomputable def holds.tw17027350548333183925 : Unit := ()
noncomputable def holds.tw3626213265524300766 : Unit := ()
noncomputable def holds.tw4772410448533662562 : Unit := ()
noncomputable def holds.tw12004910477815969792 : Unit := ()
noncomputable def holds.tw2490583276235294983 : Unit := ()
noncomputable def holds.tw15785218014132313688 : Unit := ()
noncomputable def holds.tw11750193621415288269 : Unit := ()
noncomputable def holds.tw7798976556582896058 : Unit := ()
noncomputable def holds.tw16887932952891968693 : Unit := ()
noncomputable def holds.tw6118206324766035986 : Unit := ()
noncomputable def holds.tw11413208387583891290 : Unit := ()
noncomputable def holds.tw11452230443905216066 : Unit := ()
noncomputable def holds.tw2661161477798328453 : Unit := ()
noncomputable def holds.tw10634055019105834221 : Unit := ()
noncomputable def holds.tw4954732016240277505 : Unit := ()
noncomputable def holds.tw14438757958421221462 : Unit := ()
noncomputable def holds.tw4043779546988386903 : Unit := ()
noncomputable def holds.tw7350330377624401328 : Unit := ()
noncomputable def holds.tw7145057240379410032 : Unit := ()
noncomputable def holds.tw4583756282420477746 : Unit := ()
noncomputable def holds.tw1833173380454153921 : Unit := ()
noncomputable def holds.tw4998001990490953706 : Unit := ()
noncomputable def holds.tw16955119412671694080 : Unit := ()
noncomputable def holds.tw15573729904360925794 : Unit := ()
noncomputable def holds.tw17597196502641442581 : Unit := ()
noncomputable def holds.tw17631178891982236634 : Unit := ()
noncomputable def holds.tw11319453509113102234 : Unit := ()
noncomputable def holds.tw16568243084613897719 : Unit := ()
noncomputable def holds.tw3579776383272448420 : Unit := ()
noncomputable def holds.tw3280128972450656526 : Unit := ()
noncomputable def holds.tw16939745714101447976 : Unit := ()
noncomputable def holds.tw5959074840488112208 : Unit := ()
noncomputable def holds.tw14085268106739128817 : Unit := ()
noncomputable def holds.tw15814798929938293467 : Unit := ()
noncomputable def holds.tw4496467784121089108 : Unit := ()
noncomputable def holds.tw14062913937729191461 : Unit := ()
noncomputable def holds.tw4302478151189881795 : Unit := ()
noncomputable def holds.tw9458989268892848673 : Unit := ()
noncomputable def holds.tw17822619038779606285 : Unit := ()
noncomputable def holds.tw15356600547250028879 : Unit := ()
noncomputable def holds.tw17779774989671706653 : Unit := ()
noncomputable def holds.tw8323465864499181419 : Unit := ()
noncomputable def holds.tw7873036012977236159 : Unit := ()
noncomputable def holds.tw12733908048491186811 : Unit := ()
noncomputable def holds.tw13676757877788619591 : Unit := ()
noncomputable def holds.tw9370115536473471133 : Unit := ()
noncomputable def holds.tw2781561513384061212 : Unit := ()
noncomputable def holds.tw16697607604324151607 : Unit := ()
noncomputable def holds.tw5915465848944024539 : Unit := ()
noncomputable def holds.tw2585008018627690749 : Unit := ()
noncomputable def holds.tw12091882185175152326 : Unit := ()
noncomputable def holds.tw945861476033566700 : Unit := ()
noncomputable def holds.tw707885073954110949 : Unit := ()
noncomputable def holds.tw3969078344035082030 : Unit := ()
noncomputable def holds.tw1508545211966159021 : Unit := ()
noncomputable def holds.tw9647410926604887880 : Unit := ()
noncomputable def holds.tw5857869478962280401 : Unit := ()
noncomputable def holds.tw7122917452565745793 : Unit := ()
noncomputable def holds.tw3864012138097595758 : Unit := ()
noncomputable def holds.tw15580662879708500073 : Unit := ()
noncomputable def holds.tw8451429660923938374 : Unit := ()
noncomputable def holds.tw10828986214106111531 : Unit := ()
noncomputable def holds.tw16500857126356320474 : Unit := ()
noncomputable def holds.tw9523873602847724419 : Unit := ()
noncomputable def holds.tw17450472940649059298 : Unit := ()
noncomputable def holds.tw12461706298059298081 : Unit := ()
noncomputable def holds.tw5323918697378788693 : Unit := ()
noncomputable def holds.tw820627826665183454 : Unit := ()
noncomputable def holds.tw3522650409621224377 : Unit := ()
noncomputable def holds.tw9260842090827677427 : Unit := ()
noncomputable def holds.tw10894570999934473159 : Unit := ()
noncomputable def holds.tw11223116819087169764 : Unit := ()
noncomputable def holds.tw8035951141280138642 : Unit := ()
noncomputable def holds.tw10587580826675096554 : Unit := ()
noncomputable def holds.tw11037822914523747621 : Unit := ()
noncomputable def holds.tw11450275943994455990 : Unit := ()
noncomputable def holds.tw8789113547377566482 : Unit := ()
noncomputable def holds.tw4636335402390110268 : Unit := ()
noncomputable def holds.tw14400433609042604536 : Unit := ()
noncomputable def holds.tw13926404443759844560 : Unit := ()
noncomputable def holds.tw3811385743445658432 : Unit := ()
noncomputable def holds.tw8944343764007091065 : Unit := ()
noncomputable def holds.tw17254660705983429885 : Unit := ()
noncomputable def holds.tw10726778698580467152 : Unit := ()
noncomputable def holds.tw14781169843320478655 : Unit := ()
noncomputable def holds.tw16569799976186059295 : Unit := ()
noncomputable def holds.tw4065146272016792997 : Unit := ()
noncomputable def holds.tw6305404595935261976 : Unit := ()
noncomputable def holds.tw12563481999192008768 : Unit := ()
noncomputable def holds.tw17094759248423572775 : Unit := ()
noncomputable def holds.tw13899955331829678731 : Unit := ()
noncomputable def holds.tw10675174832548182787 : Unit := ()
noncomputable def holds.tw1692041494862269998 : Unit := ()
noncomputable def holds.tw4079574721724423606 : Unit := ()
noncomputable def holds.tw2296293446034493066 : Unit := ()
noncomputable def holds.tw9441326970708011783 : Unit := ()
noncomputable def holds.tw5498966250228494579 : Unit := ()
noncomputable def holds.tw11937027079205856637 : Unit := ()
noncomputable def holds.tw13222035019132090745 : Unit := ()
noncomputable def holds.tw3393808461323943489 : Unit := ()
noncomputable def holds.tw14747351113905286367 : Unit := ()
noncomputable def holds.tw15493915963290111440 : Unit := ()
noncomputable def holds.tw8324913547053779211 : Unit := ()
noncomputable def holds.tw4132201380793018340 : Unit := ()
noncomputable def holds.tw5981487413272766262 : Unit := ()
noncomputable def holds.tw16049930973857864354 : Unit := ()
noncomputable def holds.tw4480811336153992742 : Unit := ()
noncomputable def holds.tw7580357766596436714 : Unit := ()
noncomputable def holds.tw6307330118970589470 : Unit := ()
noncomputable def holds.tw14691085348537605332 : Unit := ()
noncomputable def holds.tw15942494369296127945 : Unit := ()
noncomputable def holds.tw14456359579513077766 : Unit := ()
noncomputable def holds.tw5078402968320093544 : Unit := ()
noncomputable def holds.tw6987649320729488474 : Unit := ()
noncomputable def holds.tw12542415522573167287 : Unit := ()
noncomputable def holds.tw4422276619278600727 : Unit := ()
noncomputable def holds.tw5112738896828158680 : Unit := ()
noncomputable def holds.tw7753079526450916859 : Unit := ()
noncomputable def holds.tw7033360832409044607 : Unit := ()
noncomputable def holds.tw8087799500789234286 : Unit := ()
noncomputable def holds.tw7074641181814816541 : Unit := ()
noncomputable def holds.tw685634667276709000 : Unit := ()
noncomputable def holds.tw16497969686579978388 : Unit := ()
noncomputable def holds.tw16141144775947785660 : Unit := ()
noncomputable def holds.tw14054693376921006050 : Unit := ()
noncomputable def holds.tw17858152450515298520 : Unit := ()
noncomputable def holds.tw576298715544257586 : Unit := ()
noncomputable def holds.tw9327718836232418737 : Unit := ()
noncomputable def holds.tw154871700347349385 : Unit := ()
noncomputable def holds.tw2946744036017948005 : Unit := ()
noncomputable def holds.tw13384883100587833847 : Unit := ()
noncomputable def holds.tw5350216910946226995 : Unit := ()
noncomputable def holds.tw3101148707280403237 : Unit := ()
noncomputable def holds.tw17500814259130102135 : Unit := ()
noncomputable def holds.tw3937267528351423324 : Unit := ()
noncomputable def holds.tw18145382148040430673 : Unit := ()
noncomputable def holds.tw10843207457187830352 : Unit := ()
noncomputable def holds.tw1974762919298152056 : Unit := ()
noncomputable def holds.tw10859938921441162988 : Unit := ()
noncomputable def holds.tw15043986215568586124 : Unit := ()
noncomputable def holds.tw13306226422529918579 : Unit := ()
noncomputable def holds.tw8903297777125119442 : Unit := ()
noncomputable def holds.tw2929439407932294337 : Unit := ()
noncomputable def holds.tw9866653766423218390 : Unit := ()
noncomputable def holds.tw15663057623668237757 : Unit := ()
noncomputable def holds.tw12306811582311103309 : Unit := ()
noncomputable def holds.tw13370180491053348 : Unit := ()
noncomputable def holds.tw12629177860411813126 : Unit := ()
noncomputable def holds.tw5031978486770369989 : Unit := ()
noncomputable def holds.tw9250495785965993271 : Unit := ()
noncomputable def holds.tw14012497318314112844 : Unit := ()
noncomputable def holds.tw14856189802965030758 : Unit := ()
noncomputable def holds.tw1389151227800987198 : Unit := ()
noncomputable def holds.tw11341941285841758863 : Unit := ()
noncomputable def holds.tw3378624336152846145 : Unit := ()
noncomputable def holds.tw298297018594106725 : Unit := ()
noncomputable def holds.tw2451063411067222376 : Unit := ()
noncomputable def holds.tw7235909688915465346 : Unit := ()
noncomputable def holds.tw13564983018704479910 : Unit := ()
noncomputable def holds.tw7258431392514884226 : Unit := ()
noncomputable def holds.tw18348608232412713582 : Unit := ()
noncomputable def holds.tw10840139340582571922 : Unit := ()
noncomputable def holds.tw14149781006570564392 : Unit := ()
noncomputable def holds.tw9816476011544392670 : Unit := ()
noncomputable def holds.tw11322816463052944642 : Unit := ()
noncomputable def holds.tw7944191787301449481 : Unit := ()
noncomputable def holds.tw1466284255255076664 : Unit := ()
noncomputable def holds.tw8102643725754146565 : Unit := ()
noncomputable def holds.tw6817751937963910627 : Unit := ()
noncomputable def holds.tw13416111870119765123 : Unit := ()
noncomputable def holds.tw4381757428849502282 : Unit := ()
noncomputable def holds.tw4717937361131159733 : Unit := ()
noncomputable def holds.tw4702539438339769474 : Unit := ()
noncomputable def holds.tw16617498834693519143 : Unit := ()
noncomputable def holds.tw17779192219718171531 : Unit := ()
noncomputable def holds.tw16801115162389100519 : Unit := ()
noncomputable def holds.tw10071743356415266081 : Unit := ()
noncomputable def holds.tw16478504620199068264 : Unit := ()
noncomputable def holds.tw1672651397029140864 : Unit := ()
noncomputable def holds.tw16908686848171061149 : Unit := ()
noncomputable def holds.tw12553914923479104506 : Unit := ()
noncomputable def holds.tw16451975095625300501 : Unit := ()
noncomputable def holds.tw8351548024695214574 : Unit := ()
noncomputable def holds.tw8105830805119860317 : Unit := ()
noncomputable def holds.tw15203487316939043196 : Unit := ()
noncomputable def holds.tw17591727778206626035 : Unit := ()
noncomputable def holds.tw15654153127513851752 : Unit := ()
noncomputable def holds.tw10637851664137882224 : Unit := ()
noncomputable def holds.tw18078616723997116376 : Unit := ()
noncomputable def holds.tw17476224472650253806 : Unit := ()
noncomputable def holds.tw10269081998898121243 : Unit := ()
noncomputable def holds.tw1382383790286775375 : Unit := ()
noncomputable def holds.tw1552857426587298226 : Unit := ()
noncomputable def holds.tw14977296931134136204 : Unit := ()
noncomputable def holds.tw5565848844497943877 : Unit := ()
noncomputable def holds.tw6278366128872770721 : Unit := ()
noncomputable def holds.tw142377125942736700 : Unit := ()
noncomputable def holds.tw8571184235532366510 : Unit := ()
noncomputable def holds.tw5887078386916838634 : Unit := ()
noncomputable def holds.tw4381346726385406224 : Unit := ()
noncomputable def holds.tw18224010420261798391 : Unit := ()
noncomputable def holds.tw13002855754428957212 : Unit := ()
noncomputable def holds.tw17180457848445815676 : Unit := ()
noncomputable def holds.tw17510143785770761814 : Unit := ()
noncomputable def holds.tw9157471666820141079 : Unit := ()
noncomputable def holds.tw17714467908841036005 : Unit := ()
noncomputable def holds.tw13219762378693318442 : Unit := ()
noncomputable def holds.tw12135579543755162760 : Unit := ()
noncomputable def holds.tw9766128667603022514 : Unit := ()
noncomputable def holds.tw6051805267018829825 : Unit := ()
noncomputable def holds.tw3589964763223657672 : Unit := ()
noncomputable def holds.tw9160814584890018001 : Unit := ()
noncomputable def holds.tw13980644296350529377 : Unit := ()
noncomputable def holds.tw15969937429085165904 : Unit := ()
noncomputable def holds.tw13945929957867325323 : Unit := ()
noncomputable def holds.tw6545324650690627985 : Unit := ()
noncomputable def holds.tw6216033271563703469 : Unit := ()
noncomputable def holds.tw10202850474951982929 : Unit := ()
noncomputable def holds.tw5015485144833937494 : Unit := ()
noncomputable def holds.tw15349486494167490861 : Unit := ()
noncomputable def holds.tw12774209864397607762 : Unit := ()
noncomputable def holds.tw8277820557490507997 : Unit := ()
noncomputable def holds.tw3092724735428445279 : Unit := ()
noncomputable def holds.tw16898140867199733807 : Unit := ()
noncomputable def holds.tw4399152324972305773 : Unit := ()
noncomputable def holds.tw5588498093969417903 : Unit := ()
noncomputable def holds.tw10953125311028157021 : Unit := ()
noncomputable def holds.tw9188266559522036927 : Unit := ()
noncomputable def holds.tw10973056549479156102 : Unit := ()
noncomputable def holds.tw5099458221760260784 : Unit := ()
noncomputable def holds.tw8827755016177155863 : Unit := ()
noncomputable def holds.tw16796854770986717008 : Unit := ()
noncomputable def holds.tw2277698456845511444 : Unit := ()
noncomputable def holds.tw15670438280644718882 : Unit := ()
noncomputable def holds.tw7221694943082674061 : Unit := ()
noncomputable def holds.tw10705761992013847755 : Unit := ()
noncomputable def holds.tw16239030619513480838 : Unit := ()
noncomputable def holds.tw3834328006691320696 : Unit := ()
noncomputable def holds.tw3339025504875072537 : Unit := ()
noncomputable def holds.tw5016061194280584464 : Unit := ()
noncomputable def holds.tw4500180452004054980 : Unit := ()
noncomputable def holds.tw4921510776622977656 : Unit := ()
noncomputable def holds.tw2003794701753356343 : Unit := ()
noncomputable def holds.tw4197124852483764760 : Unit := ()
noncomputable def holds.tw7885888744534978006 : Unit := ()
noncomputable def holds.tw96072713605637463 : Unit := ()
noncomputable def holds.tw9245723823536211039 : Unit := ()
noncomputable def holds.tw5082999880386992228 : Unit := ()
noncomputable def holds.tw9367411864662104596 : Unit := ()
noncomputable def holds.tw2936799095737714382 : Unit := ()
noncomputable def holds.tw14786868411472786527 : Unit := ()
noncomputable def holds.tw15985840036639034899 : Unit := ()
noncomputable def holds.tw10447927361281507451 : Unit := ()
noncomputable def holds.tw15228004617427520810 : Unit := ()
noncomputable def holds.tw8868040359437915812 : Unit := ()
noncomputable def holds.tw3093010850272755244 : Unit := ()
noncomputable def holds.tw8801499457356032720 : Unit := ()
noncomputable def holds.tw17642598502550569490 : Unit := ()
noncomputable def holds.tw4905061745869718969 : Unit := ()
noncomputable def holds.tw8115153917610635543 : Unit := ()
noncomputable def holds.tw6735552807121987811 : Unit := ()
noncomputable def holds.tw13341946137322399123 : Unit := ()
noncomputable def holds.tw10684964147190113176 : Unit := ()
noncomputable def holds.tw7791430327242384495 : Unit := ()
noncomputable def holds.tw15383290158734973844 : Unit := ()
noncomputable def holds.tw9284948610034456067 : Unit := ()
noncomputable def holds.tw4796666493748621973 : Unit := ()
noncomputable def holds.tw12354433232887552844 : Unit := ()
noncomputable def holds.tw4252685499439207924 : Unit := ()
noncomputable def holds.tw4137054072099604216 : Unit := ()
noncomputable def holds.tw11818566221774970091 : Unit := ()
noncomputable def holds.tw17533166617710000329 : Unit := ()
noncomputable def holds.tw8684541073956307770 : Unit := ()
noncomputable def holds.tw15919173128261314395 : Unit := ()
noncomputable def holds.tw9309047703646887916 : Unit := ()
noncomputable def holds.tw9518972631687950247 : Unit := ()
noncomputable def holds.tw1095465085569150570 : Unit := ()
noncomputable def holds.tw6816380694822836728 : Unit := ()
noncomputable def holds.tw17647985033660283594 : Unit := ()
noncomputable def holds.tw187104208977503339 : Unit := ()
noncomputable def holds.tw12698916279152862973 : Unit := ()
noncomputable def holds.tw9107170298555381705 : Unit := ()
noncomputable def holds.tw5763553328388235881 : Unit := ()
noncomputable def holds.tw15773771547523477324 : Unit := ()
noncomputable def holds.tw2697976716319701033 : Unit := ()
noncomputable def holds.tw3279077582325829838 : Unit := ()
noncomputable def holds.tw6871585250140865760 : Unit := ()
noncomputable def holds.tw8067858942452583622 : Unit := ()
noncomputable def holds.tw11619669790576578751 : Unit := ()
noncomputable def holds.tw2156681307112010326 : Unit := ()
noncomputable def holds.tw7877780744568003191 : Unit := ()
noncomputable def holds.tw8551410553514715252 : Unit := ()
noncomputable def holds.tw10677865647760817919 : Unit := ()
noncomputable def holds.tw13860560629476652642 : Unit := ()
noncomputable def holds.tw6099975724469302500 : Unit := ()
noncomputable def holds.tw15464432741802594518 : Unit := ()
noncomputable def holds.tw99148262030102190 : Unit := ()
noncomputable def holds.tw11040456503202229835 : Unit := ()
noncomputable def holds.tw10595842591828190984 : Unit := ()
noncomputable def holds.tw13338651292558784369 : Unit := ()
noncomputable def holds.tw9039863090174473464 : Unit := ()
noncomputable def holds.tw4021013208564600997 : Unit := ()
noncomputable def holds.tw14083959995102712966 : Unit := ()
noncomputable def holds.tw14751579383510745608 : Unit := ()
noncomputable def holds.tw1882270145967814011 : Unit := ()
noncomputable def holds.tw6424660084863691381 : Unit := ()
noncomputable def holds.tw13373784697917265674 : Unit := ()
noncomputable def holds.tw7942442253511216057 : Unit := ()
noncomputable def holds.tw5295917329084666069 : Unit := ()
noncomputable def holds.tw11899092608841805274 : Unit := ()
noncomputable def holds.tw2395109189467087578 : Unit := ()
noncomputable def holds.tw13758948915013449397 : Unit := ()
noncomputable def holds.tw4077311611012620791 : Unit := ()
noncomputable def holds.tw7365562674294520451 : Unit := ()
noncomputable def holds.tw10280545108713110612 : Unit := ()
noncomputable def holds.tw12158838097934144204 : Unit := ()
noncomputable def holds.tw2752272122444995253 : Unit := ()
noncomputable def holds.tw6166532556598395850 : Unit := ()
noncomputable def holds.tw2422663375537807432 : Unit := ()
noncomputable def holds.tw14571696787620697854 : Unit := ()
noncomputable def holds.tw2406459529592591507 : Unit := ()
noncomputable def holds.tw8413133151647880539 : Unit := ()
noncomputable def holds.tw7399101569421298396 : Unit := ()
noncomputable def holds.tw3232270311777372273 : Unit := ()
noncomputable def holds.tw12095597400677081514 : Unit := ()
noncomputable def holds.tw17294395744611713098 : Unit := ()
noncomputable def holds.tw9638990691586225099 : Unit := ()
noncomputable def holds.tw9072656965561520583 : Unit := ()
noncomputable def holds.tw11568272619759294016 : Unit := ()
noncomputable def holds.tw8070350036930755802 : Unit := ()
noncomputable def holds.tw11866763835798034582 : Unit := ()
noncomputable def holds.tw14083834280242248106 : Unit := ()
noncomputable def holds.tw10520202591518659360 : Unit := ()
noncomputable def holds.tw14027143162585244968 : Unit := ()
noncomputable def holds.tw8143335708233088440 : Unit := ()
noncomputable def holds.tw244668840739839672 : Unit := ()
noncomputable def holds.tw7400771686186127474 : Unit := ()
noncomputable def holds.tw63030109126827207 : Unit := ()
noncomputable def holds.tw9408521175777228426 : Unit := ()
noncomputable def holds.tw2335221107431800076 : Unit := ()
noncomputable def holds.tw5599412692616142259 : Unit := ()
noncomputable def holds.tw5878047611234877577 : Unit := ()
noncomputable def holds.tw16034146489351607153 : Unit := ()
noncomputable def holds.tw1639197193820686003 : Unit := ()
noncomputable def holds.tw17453241218497372113 : Unit := ()
noncomputable def holds.tw5531990279233569197 : Unit := ()
noncomputable def holds.tw13200177327426563521 : Unit := ()
noncomputable def holds.tw1092734292537931370 : Unit := ()
noncomputable def holds.tw4949047195023096438 : Unit := ()
noncomputable def holds.tw7991519602905016326 : Unit := ()
noncomputable def holds.tw9855210162650666830 : Unit := ()
noncomputable def holds.tw8006095370074002437 : Unit := ()
noncomputable def holds.tw8664812251140827045 : Unit := ()
noncomputable def holds.tw5252246860307943348 : Unit := ()
noncomputable def holds.tw5583946556138506119 : Unit := ()
noncomputable def holds.tw15566814792845459997 : Unit := ()
noncomputable def holds.tw7794074229983474189 : Unit := ()
noncomputable def holds.tw8086972369959518483 : Unit := ()
noncomputable def holds.tw7923702915469573346 : Unit := ()
noncomputable def holds.tw10876536743886354276 : Unit := ()
noncomputable def holds.tw6896159741398044905 : Unit := ()
noncomputable def holds.tw15305512045591798990 : Unit := ()
noncomputable def holds.tw3083665863380995925 : Unit := ()
noncomputable def holds.tw4624323801304008105 : Unit := ()
noncomputable def holds.tw11502601298335438083 : Unit := ()
noncomputable def holds.tw4408763645494598628 : Unit := ()
noncomputable def holds.tw6027180799015181879 : Unit := ()
noncomputable def holds.tw9430090754398894584 : Unit := ()
noncomputable def holds.tw4659233104850659043 : Unit := ()
noncomputable def holds.tw16124510186991490168 : Unit := ()
noncomputable def holds.tw5857794014393010482 : Unit := ()
noncomputable def holds.tw12084871131945615253 : Unit := ()
noncomputable def holds.tw13150661809386230508 : Unit := ()
noncomputable def holds.tw18173914834931495973 : Unit := ()
noncomputable def holds.tw1316056555746827224 : Unit := ()
noncomputable def holds.tw12632932662738783937 : Unit := ()
noncomputable def holds.tw8217837808669207805 : Unit := ()
noncomputable def holds.tw14205006904943715905 : Unit := ()
noncomputable def holds.tw12468101337765408714 : Unit := ()
noncomputable def holds.tw9232459349045140238 : Unit := ()
noncomputable def holds.tw1213666046027356511 : Unit := ()
noncomputable def holds.tw6654929391614583909 : Unit := ()
noncomputable def holds.tw303617358959260456 : Unit := ()
noncomputable def holds.tw4485590747672999114 : Unit := ()
noncomputable def holds.tw18232564904221570389 : Unit := ()
noncomputable def holds.tw1714096750540956960 : Unit := ()
noncomputable def holds.tw14314133134477209284 : Unit := ()
noncomputable def holds.tw2160012875989923789 : Unit := ()
noncomputable def holds.tw9784731065822230439 : Unit := ()
noncomputable def holds.tw13108245259352980691 : Unit := ()
noncomputable def holds.tw14404905868111484630 : Unit := ()
noncomputable def holds.tw10061326939861387809 : Unit := ()
noncomputable def holds.tw8253004272172430988 : Unit := ()
noncomputable def holds.tw16740147826971877517 : Unit := ()
noncomputable def holds.tw3117193011312037209 : Unit := ()
noncomputable def holds.tw12808162357026388105 : Unit := ()
noncomputable def holds.tw1272921112123746405 : Unit := ()
noncomputable def holds.tw13334661261001831826 : Unit := ()
noncomputable def holds.tw6489310206099298910 : Unit := ()
noncomputable def holds.tw14533596452844920548 : Unit := ()
set_option Elab.async true in
theorem holds : PySem.Challenge.rw_rr0025_01.Holds := by
  w_on
  o_law
  k_head
  case hw => w_witness2
  case hc => exact law _ _ rfl
end Mine
end
theorem PySem.Challenge.cw_rr0025_01_holds : PySem.Challenge.rw_rr0025_01.Holds :=
  Mine.holds
