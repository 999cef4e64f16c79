import PyProof.Rows.All
import Wide.All
import OpenK.AllK
import Wide.FinOn
import PySem.Challenge.RW_rr0025_01
open PySem PySem.W PyProof.Rows
set_option Elab.async false
set_option maxRecDepth 100000
set_option linter.unusedVariables false
set_option linter.unusedSimpArgs false
namespace Mine
set_option maxHeartbeats 8000000 in
open_top hd for PySem.Challenge.rw_rr0025_01
end Mine
section
-- part Base
open PySem PySem.W PySem.Calls PyProof.Rows PyProof.V PySem.Spec
namespace Mine
abbrev Led := List (Addr × Obj)
noncomputable abbrev P0 : Program := PySem.Challenge.rw_rr0025_01.row.prog
noncomputable abbrev Lo : List Str := looseW hd.view_39 [Str.ofString "atom_text", Str.ofString "Writer", Str.ofString "term_text"]
theorem fill : ∀ w : World, ∀ h : Heap, (Mine.hd.heap_39 w.params).In h → PySem.Challenge.rw_rr0025_01.row.prog = PySem.Challenge.rw_rr0025_01.row.prog := by
  k_fill
  intros
  rfl

/-- a call of what lies at f, over a ledger, k frames deep: what comes back and the ledger behind it -/
def Does (k : Nat) (w : World) (mean : ExcName → Option Value) (mg mb : Str → Option Value) (f : Addr) (vs : List Value) (news : Led) (Post : Value → Led → Prop) : Prop :=
  ∀ (dp un : Nat) (gd : Option (List Code)) (cn : Str) (cs : Scope) (a : Addr) (ccd : Value) (cl : List (Str × Addr)) (outer : List Env) (A₀ : Around) (base h₀ : Heap) (L : Addr) (m : Str → Option Value) (s : Shared) (Q E : Value → Shared → Prop),
    Below A₀ base outer h₀ → Fr h₀ L s.heap m → (hd.heap_39 w.params).In h₀ → News h₀ L s.heap news → Top hd.view_39 Lo mean mg mb h₀ → cs.kind = .function → dp + k < recursionLimit → un + 10 * k < cLine →
    (∀ r news' h' tk', Post r news' → Fr h₀ L h' m → News h₀ L h' news' → Q r { s with heap := h', toks := tk' }) →
    wpAny (model P0 w) (ktrTop dp un gd cn cs L a ccd cl outer) (call (.ref f) vs) Q E s

theorem allLt_ne {l : Addr} {rest : Led} (h : AllLt l rest) : ∀ p ∈ rest, p.1 ≠ l := by
  induction rest with
  | nil => intro p hp; cases hp
  | cons q r ih =>
    intro p hp
    rcases List.mem_cons.mp hp with rfl | hp
    · exact Nat.ne_of_lt h.1
    · exact ih h.2 p hp

theorem does_mono {k : Nat} {w : World} {mean : ExcName → Option Value} {mg mb : Str → Option Value} {f : Addr} {vs : List Value} {news : Led} {Post Post' : Value → Led → Prop} (D : Does k w mean mg mb f vs news Post) (h : ∀ r l, Post r l → Post' r l) : Does k w mean mg mb f vs news Post' :=
  fun _ _ _ _ _ _ _ _ _ _ _ _ _ _ _ _ _ B F X N T hk hd hu ret => D _ _ _ _ _ _ _ _ _ _ _ _ _ _ _ _ _ B F X N T hk hd hu fun r n h' t p => ret r n h' t (h r n p)
/-- an entry taken out of a ledger -/
inductive Rm (p : Addr × Obj) : Led → Led → Prop
  | head {r} : Rm p (p :: r) r
  | tail {q r r'} : Rm p r r' → Rm p (q :: r) (q :: r')
inductive Pk : Led → Led → Prop
  | nil {all} : Pk all all
  | cons {p led all all'} : Rm p all all' → Pk led all' → Pk (p :: led) all
theorem Rm.mem {p : Addr × Obj} : ∀ {all all' : Led}, Rm p all all' → ∀ q, q ∈ p :: all' → q ∈ all
  | _, _, .head, q, h => h
  | _, _, .tail (q := x) h, q, hq => by
    rcases List.mem_cons.mp hq with rfl | hq
    · exact .tail _ (h.mem _ (.head _))
    · rcases List.mem_cons.mp hq with rfl | hq
      · exact .head _
      · exact .tail _ (h.mem _ (.tail _ hq))
theorem Pk.mem : ∀ {led all : Led}, Pk led all → ∀ q, q ∈ led → q ∈ all
  | _, _, .nil, q, h => h
  | _, _, .cons (p := p) h r, q, hq => by
    rcases List.mem_cons.mp hq with rfl | hq
    · exact h.mem _ (.head _)
    · exact h.mem _ (.tail _ (r.mem _ hq))
theorem Pk.news {led all : Led} {h₀ h : Heap} {L : Addr} (P : Pk led all) (N : News h₀ L h all) : News h₀ L h led := fun p hp => N p (P.mem p hp)

theorem does_use {k : Nat} {w : World} {mean : ExcName → Option Value} {mg mb : Str → Option Value} {f : Addr} {vs : List Value} {led all : Led} {Post : Value → Led → Prop} {dp un : Nat} {gd : Option (List Code)} {cn : Str} {cs : Scope} {a : Addr} {ccd : Value} {cl : List (Str × Addr)} {outer : List Env} {A₀ : Around} {base h₀ : Heap} {L : Addr} {m : Str → Option Value} {s : Shared} {Q E : Value → Shared → Prop}
    (B : Below A₀ base outer h₀) (F : Fr h₀ L s.heap m) (X : (hd.heap_39 w.params).In h₀) (N : News h₀ L s.heap all) (T : Top hd.view_39 Lo mean mg mb h₀) (hk : cs.kind = .function)
    (D : Does k w mean mg mb f vs led Post) (pk : Pk led all) (hd : dp + k < recursionLimit) (hu : un + 10 * k < cLine)
    (ret : ∀ r news' h' tk', Post r news' → Fr h₀ L h' m → News h₀ L h' news' → Q r { s with heap := h', toks := tk' }) :
    wpAny (model P0 w) (ktrTop dp un gd cn cs L a ccd cl outer) (call (.ref f) vs) Q E s := D _ _ _ _ _ _ _ _ _ _ _ _ _ _ _ _ _ B F X (pk.news N) T hk hd hu ret

theorem sub1 {a : Addr} {o : Obj} {r all : Led} (h1 : (a, o) ∈ all) (h2 : ∀ p ∈ r, p ∈ all) : ∀ p ∈ (a, o) :: r, p ∈ all := List.forall_mem_cons.mpr ⟨h1, h2⟩
theorem sub2 {p : Addr × Obj} {r all : Led} (h2 : ∀ q ∈ r, q ∈ all) : ∀ q ∈ r, q ∈ p :: all := fun q hq => .tail _ (h2 q hq)
theorem sub3 {r : Led} : ∀ q ∈ r, q ∈ r := fun _ h => h
theorem len_l {prog : Program} {w : World} {A : Around} {E : Value → Shared → Prop} {s : Shared} {h₀ : Heap} {L a : Addr} {news : Led} {vs : List Value} {n : Nat} {Q : Value → Shared → Prop} (N : News h₀ L s.heap news) (hm : (a, listOf vs.toArray n) ∈ news) (hz : vs.length ≤ 1000000)
    (h : ∀ t tk, Q (.int (vs.length : Nat) t) { s with toks := tk }) : wpAny (model prog w) A (call (.builtin "len") [.ref a]) Q E s :=
  call_len_list ⟨_, (N _ hm).1, rfl, n, rfl⟩ (by rw [List.size_toArray]; omega) (by rw [List.size_toArray]; exact h _ _)
theorem units_make (A : Around) (args : Args) : (A.under (.builtin "type.__call__" args)).units = A.units + 1 := rfl
theorem units_ktr (dp un : Nat) (gd : Option (List Code)) (cn : Str) (cs : Scope) (L a : Addr) (ccd : Value) (cl : List (Str × Addr)) (outer : List Env) : (ktrTop dp un gd cn cs L a ccd cl outer).units = un := rfl
def NeAll (a : Nat) : List Nat → Prop
  | [] => True
  | b :: r => a ≠ b ∧ NeAll a r
theorem NeAll.ne {a : Nat} : ∀ {l : List Nat}, NeAll a l → ∀ b ∈ l, a ≠ b
  | _ :: _, h, _, .head _ => h.1
  | _ :: _, h, _, .tail _ m => NeAll.ne h.2 _ m
theorem off_nil {adr : List Addr} : OwnOff [] adr := fun _ h => nomatch h
theorem off_cons {a : Nat} {o : Obj} {r : Led} {adr : List Addr} (h1 : NeAll a adr) (h2 : OwnOff r adr) : OwnOff ((a, o) :: r) adr := fun p hp b hb => by
  rcases List.mem_cons.mp hp with rfl | hp
  · exact h1.ne b hb
  · exact h2 p hp b hb
theorem off_nil2 {r : Led} : OwnOff r [] := fun _ _ _ h => nomatch h
theorem AllLt.up {a b : Nat} {r : Led} (h : AllLt a r) (k : a < b) : AllLt b r := by
  induction r with
  | nil => trivial
  | cons p r ih => exact ⟨Nat.lt_trans h.1 k, ih h.2⟩
theorem off_sub {r : Led} {adr adr' : List Addr} (h : OwnOff r adr) (hs : ∀ b ∈ adr', b ∈ adr) : OwnOff r adr' := fun p hp b hb => h p hp b (hs b hb)
theorem off_lt {l : Addr} {r : Led} {adr : List Addr} (h1 : AllLt l r) (h2 : OwnOff r adr) : OwnOff r (l :: adr) := fun p hp b hb => by
  rcases List.mem_cons.mp hb with rfl | hb
  · exact allLt_ne h1 p hp
  · exact h2 p hp b hb

/-- the frame's map with the stored names forgotten -/
theorem frame_form {stored : List Str} {m' m₀ : Str → Option Value} (h : ∀ y, stored.contains y = false → m' y = m₀ y) : m' = fun y => if stored.contains y then m' y else m₀ y := by
  funext y
  cases hc : stored.contains y with
  | true => simp
  | false => simp [h y hc]

section
variable {prog : Program} {w : World} {A : Around} {E : Value → Shared → Prop} {s : Shared} {env : Env} {h₀ : Heap} {target : Expr} {body : List Stmt} {Q : Flow → Shared → Prop}
/-- what is left of a loop over a made tuple or list -/
def Rest (prog : Program) (w : World) (A : Around) (E : Value → Shared → Prop) (h₀ : Heap) (env : Env) (target : Expr) (body : List Stmt) (Q : Flow → Shared → Prop) (s : Shared) (I : Addr) (cls : String) (lp : Addr × Obj) (vs : List Value) (m : Str → Option Value) (news : Led) : Prop :=
  ItemsRest prog w A E h₀ env target body Q s [(I, cls)] [lp] (vs.map .val) m news
theorem postW_mono {L : Addr} {s₁ s₂ : Shared} {its : Led} {R R' : (Str → Option Value) → Led → Prop} {f : Flow} (h : UnrPostW h₀ L s₁ its R Q f s₂) (k : ∀ m n, (∀ p ∈ n, ∀ q ∈ its, p.1 ≠ q.1) → R m n → R' m n) : UnrPostW h₀ L s₁ its R' Q f s₂ := by
  cases f with
  | ret v => exact h
  | brk => exact h
  | next => obtain ⟨h', tk, m', n', e, F, N, o, r⟩ := h; exact ⟨h', tk, m', n', e, F, N, o, k _ _ o r⟩
  | cont => obtain ⟨h', tk, m', n', e, F, N, o, r⟩ := h; exact ⟨h', tk, m', n', e, F, N, o, k _ _ o r⟩
theorem rest_ind {I : Addr} {cls : String} {lp : Addr × Obj} (J : List Value → (Str → Option Value) → Led → Prop)
    (turn : ∀ v r m nx h tk it, J (v :: r) m nx → (∀ p ∈ nx, p.1 ≠ I) → it.cls = .type cls → Fr h₀ env.locals h m → News h₀ env.locals h ((I, it) :: nx) →
      wpAny (model prog w) A (assign target env v) (fun _ s₂ => wpAny (model prog w) A (execs body env) (UnrPostW h₀ env.locals { s with heap := h, toks := tk } [(I, it)] (fun m' n' => SubL [lp] n' ∧ J r m' n') Q) E s₂) E { s with heap := h, toks := tk })
    (done : ∀ m nx h tk, J [] m nx → Fr h₀ env.locals h m → News h₀ env.locals h nx → Q .next { s with heap := h, toks := tk }) :
    ∀ (vs : List Value) (m : Str → Option Value) (nx : Led), J vs m nx → (∀ p ∈ nx, p.1 ≠ I) → Rest prog w A E h₀ env target body Q s I cls lp vs m nx := by
  intro vs
  induction vs with
  | nil => intro m nx hJ _ h tk F N; exact done m nx h tk hJ F N
  | cons v r ih =>
    intro m nx hJ ho u h tk e F
    have e' : u = v := e
    subst e'
    refine AllObj.cons fun it hc => AllObj.nil fun N => ?_
    refine wpAny_mono (turn _ r m nx h tk it hJ ho hc F N) (fun _ s₂ h₂ => wpAny_mono h₂ (fun f s₃ p => postW_mono p fun m' n' o q => ⟨q.1, ?_⟩) fun _ _ x => x) fun _ _ x => x
    exact ih m' n' q.2 fun p hp => o p hp (I, it) (List.mem_singleton.mpr rfl)
theorem iter_tup {ax : Addr} {vs : List Value} {n : Nat} {m₀ : Str → Option Value} {news : Led}
    (hh : A.handled = none) (F : Fr h₀ env.locals s.heap m₀) (N : News h₀ env.locals s.heap news) (hm : (ax, ({ cls := .type "tuple", data := .seq vs.toArray n } : Obj)) ∈ news)
    (rest₀ : ∀ (I : Addr) (lo : Obj), (ax, lo) ∈ news → (∀ p ∈ news, p.1 < I) → Rest prog w A E h₀ env target body Q s I "tuple_iterator" (ax, lo) vs m₀ news) :
    wpAny (model prog w) A (pyIter (.ref ax)) (fun it s₂ => TurnsAt prog w A h₀ env target body Q E it s₂) E s :=
  iter_tupTurns (vs := vs) hh F N hm rfl rfl fun I l => rest₀ I _ hm l
theorem iter_list {ax : Addr} {vs : List Value} {n : Nat} {m₀ : Str → Option Value} {news : Led}
    (hh : A.handled = none) (F : Fr h₀ env.locals s.heap m₀) (N : News h₀ env.locals s.heap news) (hm : (ax, listOf vs.toArray n) ∈ news)
    (rest₀ : ∀ (I : Addr) (lo : Obj), (ax, lo) ∈ news → (∀ p ∈ news, p.1 < I) → Rest prog w A E h₀ env target body Q s I "list_iterator" (ax, lo) vs m₀ news) :
    wpAny (model prog w) A (pyIter (.ref ax)) (fun it s₂ => TurnsAt prog w A h₀ env target body Q E it s₂) E s :=
  iter_listTurns (vs := vs) hh F N hm rfl rfl fun I l => rest₀ I _ hm l
theorem rest_sub {I : Addr} {cls : String} {lp : Addr × Obj} {vs : List Value} {m : Str → Option Value} {nx : Led} (nx' : Led) (hs : ∀ p ∈ nx', p ∈ nx) (R : Rest prog w A E h₀ env target body Q s I cls lp vs m nx') : Rest prog w A E h₀ env target body Q s I cls lp vs m nx := by
  cases vs with
  | nil => exact fun h tk F N => R h tk F fun p hp => N p (hs p hp)
  | cons v r =>
    intro u h tk e F
    refine AllObj.cons fun it hc => AllObj.nil fun N => ?_
    refine (R u h tk e F it hc) fun p hp => ?_
    rcases List.mem_append.mp hp with hp | hp
    · exact N p (List.mem_append_left _ hp)
    · exact N p (List.mem_append_right _ (hs p hp))
theorem name_form {m : Str → Option Value} {x : Str} {v : Value} (h : m x = some v) : m = fun y => if y = x then some v else m y := by
  funext y
  by_cases e : y = x
  · rw [if_pos e, e, h]
  · rw [if_neg e]
/-- a turn's end -/
theorem turn_end {L I : Addr} {it : Obj} {rest : (Str → Option Value) → Led → Prop} {s₁ : Shared} {h' : Heap} {tk : Nat} {m' : Str → Option Value} {all : Led} (news' : Led) (F : Fr h₀ L h' m') (N : News h₀ L h' all)
    (sub : ∀ p ∈ (I, it) :: news', p ∈ all) (off : ∀ p ∈ news', p.1 ≠ I) (r : rest m' news') : UnrEndW h₀ L s₁ [(I, it)] rest { s₁ with heap := h', toks := tk } :=
  ⟨h', tk, m', news', rfl, F, fun p hp => N p (sub p hp), fun p hp q hq => by rw [List.mem_singleton.mp hq]; exact off p hp, r⟩
end
section
variable {prog : Program} {w : World} {K : Type} [DecidableEq K] {knd : KeyKind prog w K} {enc : K → PyData} {h₀ h : Heap} {L d a : Addr} {m : Str → Option Value} {news : Led} {D : List (PyData × PyData)} {ks : List K} {ok : Obj} {A : Around} {E : Value → Shared → Prop} {s : Shared}
/-- a store under a tuple, the ledger told; the table is told over a part of the ledger -/
theorem tup_set {v : Value} {dv : PyData} {Q : Unit → Shared → Prop} {o : Obj} {newsT : Led} {g gT : Obj → Led} (henc : ∀ a b, same (enc a) (enc b) = decide (a = b)) (hu : A.units + 1 < cLine) (hv : Flat v dv)
    (F : Fr h₀ L s.heap m) (N : News h₀ L s.heap news) (T : TupTab knd enc newsT d D) (hsub : ∀ p ∈ newsT, p ∈ news) (hka : (a, ok) ∈ newsT) (tk : TupKeyObj knd ks ok) (U : UpdF d o news g) (UT : UpdF d o newsT gT)
    (h : ∀ h' o', Fr h₀ L h' m → News h₀ L h' (g o') → TupTab knd enc (gT o') d (putD (encTuple enc ks) dv D) → Q () { s with heap := h', toks := s.toks + (ks.length + 1) })
    (hsz : D.length ≤ sizeLine) : wpAny (model prog w) A (setItem (.ref d) (.ref a) v) Q E s := by
  have NT : News h₀ L s.heap newsT := fun p hp => N p (hsub p hp)
  have kne : ∀ {b : Addr} {ob : Obj} {ks' : List K}, (b, ob) ∈ newsT → TupKeyObj knd ks' ob → b ≠ d := fun hb t => T.key_ne NT hb t
  obtain ⟨lo, o₁, es, ep, xs, hm, hc, hd, he, hn, hk, hf⟩ := T
  obtain ⟨pre, post, rfl, hg, h1, h2⟩ := U.split
  obtain ⟨preT, postT, rfl, hgT, _, _⟩ := UT.split
  have hm' : (d, o) ∈ pre ++ (d, o) :: post := List.mem_append_right _ (.head _)
  have hD : s.heap.DictOfH (tupleKind knd) d xs := ⟨o₁, es, ep, NT.get hm, hc, hd, he, fun x hx => let ⟨_, hmk, t⟩ := hk x hx; t.key (NT.get hmk), hn⟩
  have hxs : xs.length ≤ sizeLine := by have e := hf.length; simp only [kvsOf, List.length_map] at e; omega
  refine wpAny_setItem_heap (hsz := hxs) (knd := tupleKind knd) (tupleKind_room_in1 hu) (tk.key (NT.get hka)) hD fun h' hmm hs => ?_
  obtain ⟨o', es', ep', ho', hc', hd', he', _, hn'⟩ := hmm
  have keep : ∀ p, p ∈ preT ++ (d, o) :: postT → p.1 ≠ d → p ∈ gT o' := fun p hp hpd => by
    rw [hgT]
    rcases List.mem_append.mp hp with hp | hp
    · exact List.mem_append_left _ hp
    · rcases List.mem_cons.mp hp with rfl | hp
      · exact absurd rfl hpd
      · exact List.mem_append_right _ (.tail _ hp)
  refine h h' o' (F.change hs (N _ hm').2.1 (N.fresh hm')) (hg o' ▸ N.setIn h1 h2 hs ho')
    ⟨lo, o', es', ep', storedH xs ks a v, by rw [hgT]; exact List.mem_append_right _ (.head _), hc', hd', he', hn', fun x hx => ?_, by rw [kvsOf_storedH]; exact hf.stored (same_encTuple henc) ks hv⟩
  rcases mem_storedH hx with ⟨y, hy, e1, e2⟩ | ⟨e1, e2⟩
  · obtain ⟨oky, hmk, t⟩ := hk y hy
    exact ⟨oky, by rw [e2]; exact keep _ hmk (kne hmk t), by rw [e1]; exact t⟩
  · exact ⟨ok, by rw [e2]; exact keep _ hka (kne hka tk), by rw [e1]; exact tk⟩
theorem tupTab_sub {news' : Led} (T : TupTab knd enc news d D) (hs : ∀ p ∈ news, p ∈ news') : TupTab knd enc news' d D := by
  obtain ⟨lo, o, es, ep, xs, hm, hc, hd, he, hn, hk, hf⟩ := T
  exact ⟨lo, o, es, ep, xs, hs _ hm, hc, hd, he, hn, fun x hx => let ⟨okx, hmk, t⟩ := hk x hx; ⟨okx, hs _ hmk, t⟩, hf⟩
end
end Mine
end
section
-- part A1
open PySem PySem.W PySem.Calls PyProof.Rows PyProof.V PySem.Spec
namespace Mine
local macro_rules | `(tactic| krn_off) => `(tactic| first | with_reducible assumption | exact allLt_of (by with_reducible assumption) | exact And.right (by with_reducible assumption) | exact And.right (And.right (by with_reducible assumption)) | exact And.right (And.right (And.right (by with_reducible assumption))) | exact And.right (And.right (And.right (And.right (by with_reducible assumption)))) | exact And.right (And.right (And.right (And.right (And.right (by with_reducible assumption))))) | exact And.right (And.right (And.right (And.right (And.right (And.right (by with_reducible assumption)))))) | exact And.right (And.right (And.right (And.right (And.right (And.right (And.right (by with_reducible assumption))))))) | exact And.right (And.right (And.right (And.right (And.right (And.right (And.right (And.right (by with_reducible assumption)))))))) | exact And.right (And.right (And.right (And.right (And.right (And.right (And.right (And.right (And.right (by with_reducible assumption))))))))) | exact And.right (And.right (And.right (And.right (And.right (And.right (And.right (And.right (And.right (And.right (by with_reducible assumption)))))))))) | exact And.right (And.right (And.right (And.right (And.right (And.right (And.right (And.right (And.right (And.right (And.right (by with_reducible assumption))))))))))) | exact And.right (And.right (And.right (And.right (And.right (And.right (And.right (And.right (And.right (And.right (And.right (And.right (by with_reducible assumption)))))))))))) | exact And.right (And.right (And.right (And.right (And.right (And.right (And.right (And.right (And.right (And.right (And.right (And.right (And.right (by with_reducible assumption))))))))))))) | exact And.right (And.right (And.right (And.right (And.right (And.right (And.right (And.right (And.right (And.right (And.right (And.right (And.right (And.right (by with_reducible assumption)))))))))))))) | exact And.right (And.right (And.right (And.right (And.right (And.right (And.right (And.right (And.right (And.right (And.right (And.right (And.right (And.right (And.right (by with_reducible assumption))))))))))))))) | exact And.right (And.right (And.right (And.right (And.right (And.right (And.right (And.right (And.right (And.right (And.right (And.right (And.right (And.right (And.right (And.right (by with_reducible assumption)))))))))))))))) | exact And.right (And.right (And.right (And.right (And.right (And.right (And.right (And.right (And.right (And.right (And.right (And.right (And.right (And.right (And.right (And.right (And.right (by with_reducible assumption))))))))))))))))) | exact And.right (And.right (And.right (And.right (And.right (And.right (And.right (And.right (And.right (And.right (And.right (And.right (And.right (And.right (And.right (And.right (And.right (And.right (by with_reducible assumption)))))))))))))))))) | exact And.right (And.right (And.right (And.right (And.right (And.right (And.right (And.right (And.right (And.right (And.right (And.right (And.right (And.right (And.right (And.right (And.right (And.right (And.right (by with_reducible assumption))))))))))))))))))) | exact And.right (And.right (And.right (And.right (And.right (And.right (And.right (And.right (And.right (And.right (And.right (And.right (And.right (And.right (And.right (And.right (And.right (And.right (And.right (And.right (by with_reducible assumption)))))))))))))))))))) | exact And.right (And.right (And.right (And.right (And.right (And.right (And.right (And.right (And.right (And.right (And.right (And.right (And.right (And.right (And.right (And.right (And.right (And.right (And.right (And.right (And.right (by with_reducible assumption))))))))))))))))))))) | exact And.right (And.right (And.right (And.right (And.right (And.right (And.right (And.right (And.right (And.right (And.right (And.right (And.right (And.right (And.right (And.right (And.right (And.right (And.right (And.right (And.right (And.right (by with_reducible assumption)))))))))))))))))))))) | exact And.right (And.right (And.right (And.right (And.right (And.right (And.right (And.right (And.right (And.right (And.right (And.right (And.right (And.right (And.right (And.right (And.right (And.right (And.right (And.right (And.right (And.right (And.right (by with_reducible assumption))))))))))))))))))))))) | exact And.right (And.right (And.right (And.right (And.right (And.right (And.right (And.right (And.right (And.right (And.right (And.right (And.right (And.right (And.right (And.right (And.right (And.right (And.right (And.right (And.right (And.right (And.right (And.right (by with_reducible assumption)))))))))))))))))))))))) | exact And.right (And.right (And.right (And.right (And.right (And.right (And.right (And.right (And.right (And.right (And.right (And.right (And.right (And.right (And.right (And.right (And.right (And.right (And.right (And.right (And.right (And.right (And.right (And.right (And.right (by with_reducible assumption))))))))))))))))))))))))) | fail "krn_off")
local macro_rules | `(tactic| k_all) => `(tactic| ((fail_if_success (refine List.forall_mem_cons.mpr ?_)); first | assumption | exact allLt_ne (by krn_off)))
local macro_rules | `(tactic| size_fits) => `(tactic| (simp only [List.size_toArray, PySem.sizeLine_eq]; omega))
local macro_rules | `(tactic| kbt_split) => `(tactic| first | exact Rm.head | (apply Rm.tail; kbt_split) | fail "kbt_split")
local macro_rules | `(tactic| tlg_ne) => `(tactic| first | exact off_nil | exact off_nil2 | (refine off_cons (by simp only [NeAll, and_true]; omega) ?_; tlg_ne) | exact off_sub (by assumption) (by simp) | (refine off_lt (by krn_off) ?_; tlg_ne))
local macro_rules | `(tactic| fold_lay) => `(tactic| (refine' code_def ?k1 ?k2 ?k3 ?k4 ?k5 ?kA ?kF ?kK ?k6 ?k7 ?k8 ?k9 ?kB ?_ ?c2 ?c3 ?c4 ?c5; (case kA => exact rfl); (case kF => exact rfl); (case kK => first | exact rfl | assumption); (case k1 => k_asm); (case k2 => k_asm); (case k3 => k_asm); (case k4 => k_asm); (case k5 => k_asm); (case k6 => k_is); (case k7 => k_is); (case k8 => ktr_room); (case k9 => first | exact BindsTo.of_eq rfl | exact binds_K (by k_in) rfl (by k_is) rfl rfl rfl); (case c5 => decide); (case kB => exact locs rfl); (case c2 => exact rfl); (case c3 => exact rfl); (case c4 => exact rfl); k_whole; intro g' L' h' FG' F' N' B' X' T'; (try dsimp only); (try k_lift B'); (try k_fold)))
local macro_rules | `(tactic| walk_at "call ref") => `(tactic| (k_here; k_dflt (first
  | (refine' call_cls ?k1 ?k2 ?k3 ?k4 ?k5 ?k6 ?_; (case k1 => k_asm); (case k2 => k_asm); (case k3 => k_asm); (case k4 => k_is); (case k5 => k_is); (case k6 => k_is); k_whole; intro x' d' h' F' N' l1 l2; (try k_lt l1); (try k_lt2 l2); (try k_sweep); fold_lay)
  | (refine' call_meth ?k1 ?k2 ?_; (case k1 => k_asm); (case k2 => k_mem); k_whole; fold_lay)
  | (refine wpAny_call ?_; fold_lay))))
local macro_rules | `(tactic| ktr_units) => `(tactic| ((simp only [units_in1, units_deeper, Around.mark_units, units_make, units_ktr, cLine_is] at *); omega))
local macro_rules | `(tactic| ksw_less) => `(tactic| first | exact sub3 | with_reducible assumption | (refine sub1 (by k_mem) ?_; ksw_less) | (refine sub2 ?_; ksw_less))
local macro_rules | `(tactic| k_mem) => `(tactic| ((fail_if_success (apply List.Mem.tail)); assumption))
/-- the texts with their numbers -/
def tabOf (T : List Str) : List (Str × Int) := T.mapIdx fun i t => (t, (i : Int))
/-- what asking for a text's number does to the texts -/
def AtomTo (T : List Str) (t : Str) (T' : List Str) (i : Int) : Prop := (T' = T ∧ 0 ≤ i ∧ T[i.toNat]? = some t) ∨ (T' = T ++ [t] ∧ t ∉ T ∧ i = T.length)
theorem tabOf_len (T : List Str) : (tabOf T).length = T.length := by simp [tabOf]
theorem tabOf_mem {T : List Str} {p : Str × Int} (h : p ∈ tabOf T) : 0 ≤ p.2 ∧ T[p.2.toNat]? = some p.1 := by
  obtain ⟨i, hi, rfl⟩ := List.mem_mapIdx.mp h
  simp [hi]
theorem tabOf_has {T : List Str} {t : Str} (h : t ∈ T) : ∃ p ∈ tabOf T, p.1 = t := by
  obtain ⟨i, hi, e⟩ := List.mem_iff_getElem.mp h
  exact ⟨(t, i), List.mem_mapIdx.mpr ⟨i, hi, by simp [e]⟩, rfl⟩
theorem look_yes {T : List Str} {t : Str} (h : 0 ≤ kdpLook (tabOf T) t (-1)) : T[(kdpLook (tabOf T) t (-1)).toNat]? = some t := by
  unfold kdpLook at *
  cases e : (tabOf T).find? (fun p => decide (p.1 = t)) with
  | none => rw [e] at h; simp at h
  | some p =>
    rw [e] at h
    have h1 := List.find?_some e
    have h2 := tabOf_mem (List.mem_of_find?_eq_some e)
    simp only [decide_eq_true_eq] at h1
    simp only [Option.map_some, Option.getD_some]
    rw [h2.2, h1]
theorem look_no {T : List Str} {t : Str} (h : ¬ 0 ≤ kdpLook (tabOf T) t (-1)) : t ∉ T := by
  intro ht
  obtain ⟨p, hp, e⟩ := tabOf_has ht
  apply h
  unfold kdpLook
  cases e' : (tabOf T).find? (fun p => decide (p.1 = t)) with
  | none => exact absurd e (by simpa using List.find?_eq_none.mp e' p hp)
  | some q =>
    simp only [Option.map_some, Option.getD_some]
    exact (tabOf_mem (List.mem_of_find?_eq_some e')).1
theorem tab_put {T : List Str} {t : Str} (h : t ∉ T) : kdpPut (tabOf T) t (T.length : Int) = tabOf (T ++ [t]) := by
  unfold kdpPut
  rw [if_neg]
  · unfold tabOf; simp [List.mapIdx_append]
  · simp only [List.any_eq_true, decide_eq_true_eq, not_exists, not_and]
    intro p hp e
    obtain ⟨_, h2⟩ := tabOf_mem hp
    exact h (e ▸ List.mem_of_getElem? h2)

set_option maxHeartbeats 4000000 in
theorem atom_spec {w : World} {mean : ExcName → Option Value} {mg mb : Str → Option Value} {x dx bt bn bf bg : Nat} {h1 h2 h3 h4 : Int} {k1 k2 k3 k4 : Tok} {nd nt : Nat} {vs : List Value} {T : List Str} {on : Obj} {kvs : List (Str × Value)} {rest : Led} {t : Str} {tt : Tok}
    (hs : StrsAre vs T) (hdn : on.IsDictOf (PySem.strKind P0 w) kvs) (hfp : FlatPairs PyData.str kvs (kdpD (tabOf T))) (hlo : (bn == sysModules) = false) (hlen : T.length ≤ 10000)
    (ho : OwnOff rest [x, dx, bt, bn]) (hne : x ≠ dx ∧ x ≠ bt ∧ x ≠ bn ∧ dx ≠ bt ∧ dx ≠ bn ∧ bt ≠ bn) :
    Does 3 w mean mg mb 56 [.ref x, .str t tt] ((x, instObj 122 dx) :: (dx, dictOf [⟨h1, .str (Str.ofString "texts") k1, .ref bt⟩, ⟨h2, .str (Str.ofString "atom_numbers") k2, .ref bn⟩, ⟨h3, .str (Str.ofString "functors") k3, .ref bf⟩, ⟨h4, .str (Str.ofString "functor_numbers") k4, .ref bg⟩] nd) :: (bt, listOf vs.toArray nt) :: (bn, on) :: rest)
      (fun r led => ∃ i tk T' vs' nt' on' kvs', r = .int i tk ∧ AtomTo T t T' i ∧ StrsAre vs' T' ∧ on'.IsDictOf (PySem.strKind P0 w) kvs' ∧ FlatPairs PyData.str kvs' (kdpD (tabOf T')) ∧
        led = (x, instObj 122 dx) :: (dx, dictOf [⟨h1, .str (Str.ofString "texts") k1, .ref bt⟩, ⟨h2, .str (Str.ofString "atom_numbers") k2, .ref bn⟩, ⟨h3, .str (Str.ofString "functors") k3, .ref bf⟩, ⟨h4, .str (Str.ofString "functor_numbers") k4, .ref bg⟩] nd) :: (bt, listOf vs'.toArray nt') :: (bn, on') :: rest) := by
  unfold Does
  intro dp un gd cn cs fa ccd cl outer A₀ base h₀ L m s Q E B F X N Tp hk hd hu hret
  have hvl : vs.length ≤ 10000 := by rw [hs.length]; exact hlen
  have hcl : (tabOf T).length ≤ 10000 := by rw [tabOf_len]; exact hlen
  refine wpAny_call ?_
  k_dflt cell_enter
  k_steps
  · refine hret _ _ _ _ ⟨_, _, T, vs, nt, on, kvs, rfl, .inl ⟨rfl, by assumption, look_yes (by assumption)⟩, by assumption, by assumption, by assumption, rfl⟩ (by k_asm) (by k_asm)
  · rename FlatPairs _ _ _ => hf9
    rw [tab_put (look_no (by assumption))] at hf9
    refine hret _ _ _ _ ⟨_, _, T ++ [t], vs ++ [.str t tt], _, _, _, rfl, .inr ⟨rfl, look_no (by assumption), rfl⟩, PyProof.Rows.StrsAre.append' (by assumption) (.cons _ _ .nil), by assumption, by assumption, rfl⟩ (by k_asm) (by rename News _ _ _ _ => NN; rw [List.push_toArray] at NN; exact NN)

section
local macro_rules | `(tactic| walk_at "call builtin:len") => `(tactic| (k_here; (with_reducible show wpAny _ _ (call (Value.builtin "len") [Value.ref _]) _ _ _); k_dflt (refine' len_l ?N ?m ?z ?_; (case N => k_asm); (case m => k_mem); (case z => omega)); intro t9 tk9))
local macro_rules | `(tactic| walk_at "getMethod ref") => `(tactic| (k_here; (with_reducible show wpAny _ _ (getMethod (Value.ref _) (Str.ofString "get") _) _ _ _); k_dflt (refine' getMethod_tupTab_get (knd := PySem.intKind _ _) (enc := PyData.int) ?N ?T ?_; (case N => k_asm); (case T => exact tupTab_sub (by assumption) (by ksw_less)))))
local macro_rules | `(tactic| walk_at "call builtin:dict.get") => `(tactic| (k_here; (with_reducible show wpAny _ _ (call (Value.builtin "dict.get") [Value.ref _, Value.ref _, _]) _ _ _); k_dflt (refine' call_get2_tupTab_eq (knd := PySem.intKind _ _) (enc := PyData.int) PyProof.V.same_int ?hu ?N ?T ?ka ?tk (PyProof.V.Flat.int _ _) ?hg ?_; (case N => k_asm); (case T => exact tupTab_sub (by assumption) (by ksw_less)); (case ka => k_mem); (case tk => exact TupKeyObj.made (by tuptab_items_int)); (case hg => assumption); (case hu => units_room)); intro v9 hv9; (obtain ⟨t9, e9⟩ := PyProof.V.Flat.int_inv hv9); (subst e9)))
local macro_rules | `(tactic| walk_at "setItem ref ref") => `(tactic| (k_here; k_dflt (refine' tup_set (knd := PySem.intKind _ _) (enc := PyData.int) (newsT := (_, _) :: (_, _) :: _) PyProof.V.same_int ?hu (PyProof.V.Flat.int _ _) ?F ?N ?T ?hs ?ka ?tk ?U ?UT ?_ ?hz; (case F => k_asm); (case N => k_asm); (case T => exact TupTab.cons (by assumption) _); (case hs => ksw_less); (case ka => exact List.Mem.head _); (case tk => exact TupKeyObj.made (by tuptab_items_int)); (case U => k_updF); (case UT => k_updF); (case hu => units_room); (case hz => (rw [sizeLine_eq]; omega))); intro h9 o9 F9 N9 T9; (try dsimp only at N9 T9)))
set_option maxHeartbeats 4000000 in
theorem functor_spec {w : World} {mean : ExcName → Option Value} {mg mb : Str → Option Value} {x dx bt bn bf bg : Nat} {h1 h2 h3 h4 : Int} {k1 k2 k3 k4 : Tok} {nd nf : Nat} {Fs : List Value} {og : Obj} {D : List (PyData × PyData)} {rest rt : Led} {a n : Int} {ta tn : Tok}
    (hl : (PySem.Spec.lookup (encTuple PyData.int [a, n]) D).getD (.int (-1)) = .int (-1)) (hlen : Fs.length ≤ 10000) (hD : D.length ≤ 10000)
    (ho : OwnOff rest [x, dx, bf, bg]) (hne : x ≠ dx ∧ x ≠ bf ∧ x ≠ bg ∧ dx ≠ bf ∧ dx ≠ bg ∧ bf ≠ bg)
    (hT : TupTab (PySem.intKind P0 w) PyData.int ((bg, og) :: rt) bg D) (hrt : ∀ p ∈ rt, p ∈ rest) :
    Does 3 w mean mg mb 70 [.ref x, .int a ta, .int n tn] ((x, instObj 122 dx) :: (dx, dictOf [⟨h1, .str (Str.ofString "texts") k1, .ref bt⟩, ⟨h2, .str (Str.ofString "atom_numbers") k2, .ref bn⟩, ⟨h3, .str (Str.ofString "functors") k3, .ref bf⟩, ⟨h4, .str (Str.ofString "functor_numbers") k4, .ref bg⟩] nd) :: (bf, listOf Fs.toArray nf) :: (bg, og) :: rest)
      (fun r led => ∃ (tk : Tok) (ka : Nat) (og' : Obj), r = .int (Fs.length : Nat) tk ∧ TupTab (PySem.intKind P0 w) PyData.int ((bg, og') :: (ka, { cls := .type "tuple", data := .seq [.int a ta, .int n tn].toArray }) :: rt) bg (putD (encTuple PyData.int [a, n]) (.int (Fs.length : Nat)) D) ∧
        x < ka ∧ dx < ka ∧ bf < ka ∧ bg < ka ∧ AllLt ka rest ∧
        led = (x, instObj 122 dx) :: (dx, dictOf [⟨h1, .str (Str.ofString "texts") k1, .ref bt⟩, ⟨h2, .str (Str.ofString "atom_numbers") k2, .ref bn⟩, ⟨h3, .str (Str.ofString "functors") k3, .ref bf⟩, ⟨h4, .str (Str.ofString "functor_numbers") k4, .ref bg⟩] nd) :: (bf, listOf (Fs ++ [Value.ref ka]).toArray (nf + 1)) :: (bg, og') :: (ka, { cls := .type "tuple", data := .seq [.int a ta, .int n tn].toArray }) :: rest) := by
  unfold Does
  intro dp un gd cn cs fa ccd cl outer A₀ base h₀ L m s Q E B F X N Tp hk hd hu hret
  have hort : OwnOff rt [x, dx, bf, bg] := fun p hp => ho p (hrt p hp)
  refine wpAny_call ?_
  k_dflt cell_enter
  k_steps
  rename TupTab _ _ _ _ _ => T9
  rename News _ _ _ _ => NN
  rw [List.push_toArray] at NN
  refine hret _ _ _ _ ⟨_, _, _, rfl, tupTab_sub T9 (by ksw_less), ?_, ?_, ?_, ?_, ?_, rfl⟩ (by k_asm) (cb_drop NN (by ksw_less))
  all_goals first | omega | (rename _ ∧ _ ∧ _ ∧ _ ∧ AllLt _ _ => l9; exact l9.2.2.2.2)
end
end Mine
end
section
-- part A0
open PySem PySem.W PySem.Calls PyProof.Rows PyProof.V PySem.Spec
namespace Mine
local macro_rules | `(tactic| krn_off) => `(tactic| first | with_reducible assumption | exact allLt_of (by with_reducible assumption) | exact And.right (by with_reducible assumption) | exact And.right (And.right (by with_reducible assumption)) | exact And.right (And.right (And.right (by with_reducible assumption))) | exact And.right (And.right (And.right (And.right (by with_reducible assumption)))) | exact And.right (And.right (And.right (And.right (And.right (by with_reducible assumption))))) | exact And.right (And.right (And.right (And.right (And.right (And.right (by with_reducible assumption)))))) | exact And.right (And.right (And.right (And.right (And.right (And.right (And.right (by with_reducible assumption))))))) | exact And.right (And.right (And.right (And.right (And.right (And.right (And.right (And.right (by with_reducible assumption)))))))) | exact And.right (And.right (And.right (And.right (And.right (And.right (And.right (And.right (And.right (by with_reducible assumption))))))))) | exact And.right (And.right (And.right (And.right (And.right (And.right (And.right (And.right (And.right (And.right (by with_reducible assumption)))))))))) | exact And.right (And.right (And.right (And.right (And.right (And.right (And.right (And.right (And.right (And.right (And.right (by with_reducible assumption))))))))))) | exact And.right (And.right (And.right (And.right (And.right (And.right (And.right (And.right (And.right (And.right (And.right (And.right (by with_reducible assumption)))))))))))) | exact And.right (And.right (And.right (And.right (And.right (And.right (And.right (And.right (And.right (And.right (And.right (And.right (And.right (by with_reducible assumption))))))))))))) | exact And.right (And.right (And.right (And.right (And.right (And.right (And.right (And.right (And.right (And.right (And.right (And.right (And.right (And.right (by with_reducible assumption)))))))))))))) | exact And.right (And.right (And.right (And.right (And.right (And.right (And.right (And.right (And.right (And.right (And.right (And.right (And.right (And.right (And.right (by with_reducible assumption))))))))))))))) | exact And.right (And.right (And.right (And.right (And.right (And.right (And.right (And.right (And.right (And.right (And.right (And.right (And.right (And.right (And.right (And.right (by with_reducible assumption)))))))))))))))) | exact And.right (And.right (And.right (And.right (And.right (And.right (And.right (And.right (And.right (And.right (And.right (And.right (And.right (And.right (And.right (And.right (And.right (by with_reducible assumption))))))))))))))))) | exact And.right (And.right (And.right (And.right (And.right (And.right (And.right (And.right (And.right (And.right (And.right (And.right (And.right (And.right (And.right (And.right (And.right (And.right (by with_reducible assumption)))))))))))))))))) | exact And.right (And.right (And.right (And.right (And.right (And.right (And.right (And.right (And.right (And.right (And.right (And.right (And.right (And.right (And.right (And.right (And.right (And.right (And.right (by with_reducible assumption))))))))))))))))))) | exact And.right (And.right (And.right (And.right (And.right (And.right (And.right (And.right (And.right (And.right (And.right (And.right (And.right (And.right (And.right (And.right (And.right (And.right (And.right (And.right (by with_reducible assumption)))))))))))))))))))) | exact And.right (And.right (And.right (And.right (And.right (And.right (And.right (And.right (And.right (And.right (And.right (And.right (And.right (And.right (And.right (And.right (And.right (And.right (And.right (And.right (And.right (by with_reducible assumption))))))))))))))))))))) | exact And.right (And.right (And.right (And.right (And.right (And.right (And.right (And.right (And.right (And.right (And.right (And.right (And.right (And.right (And.right (And.right (And.right (And.right (And.right (And.right (And.right (And.right (by with_reducible assumption)))))))))))))))))))))) | exact And.right (And.right (And.right (And.right (And.right (And.right (And.right (And.right (And.right (And.right (And.right (And.right (And.right (And.right (And.right (And.right (And.right (And.right (And.right (And.right (And.right (And.right (And.right (by with_reducible assumption))))))))))))))))))))))) | exact And.right (And.right (And.right (And.right (And.right (And.right (And.right (And.right (And.right (And.right (And.right (And.right (And.right (And.right (And.right (And.right (And.right (And.right (And.right (And.right (And.right (And.right (And.right (And.right (by with_reducible assumption)))))))))))))))))))))))) | exact And.right (And.right (And.right (And.right (And.right (And.right (And.right (And.right (And.right (And.right (And.right (And.right (And.right (And.right (And.right (And.right (And.right (And.right (And.right (And.right (And.right (And.right (And.right (And.right (And.right (by with_reducible assumption))))))))))))))))))))))))) | fail "krn_off")
local macro_rules | `(tactic| k_all) => `(tactic| ((fail_if_success (refine List.forall_mem_cons.mpr ?_)); first | assumption | exact allLt_ne (by krn_off)))
local macro_rules | `(tactic| size_fits) => `(tactic| (simp only [List.size_toArray, PySem.sizeLine_eq]; omega))
local macro_rules | `(tactic| kbt_split) => `(tactic| first | exact Rm.head | (apply Rm.tail; kbt_split) | fail "kbt_split")
local macro_rules | `(tactic| tlg_ne) => `(tactic| first | exact off_nil | exact off_nil2 | (refine off_cons (by simp only [NeAll, and_true]; omega) ?_; tlg_ne) | exact off_sub (by assumption) (by simp) | (refine off_lt (by krn_off) ?_; tlg_ne))
local macro_rules | `(tactic| fold_lay) => `(tactic| (refine' code_def ?k1 ?k2 ?k3 ?k4 ?k5 ?kA ?kF ?kK ?k6 ?k7 ?k8 ?k9 ?kB ?_ ?c2 ?c3 ?c4 ?c5; (case kA => exact rfl); (case kF => exact rfl); (case kK => first | exact rfl | assumption); (case k1 => k_asm); (case k2 => k_asm); (case k3 => k_asm); (case k4 => k_asm); (case k5 => k_asm); (case k6 => k_is); (case k7 => k_is); (case k8 => ktr_room); (case k9 => first | exact BindsTo.of_eq rfl | exact binds_K (by k_in) rfl (by k_is) rfl rfl rfl); (case c5 => decide); (case kB => exact locs rfl); (case c2 => exact rfl); (case c3 => exact rfl); (case c4 => exact rfl); k_whole; intro g' L' h' FG' F' N' B' X' T'; (try dsimp only); (try k_lift B'); (try k_fold)))
local macro_rules | `(tactic| walk_at "call ref") => `(tactic| (k_here; k_dflt (first
  | (refine' call_cls ?k1 ?k2 ?k3 ?k4 ?k5 ?k6 ?_; (case k1 => k_asm); (case k2 => k_asm); (case k3 => k_asm); (case k4 => k_is); (case k5 => k_is); (case k6 => k_is); k_whole; intro x' d' h' F' N' l1 l2; (try k_lt l1); (try k_lt2 l2); (try k_sweep); fold_lay)
  | (refine' call_meth ?k1 ?k2 ?_; (case k1 => k_asm); (case k2 => k_mem); k_whole; fold_lay)
  | (refine wpAny_call ?_; fold_lay))))
local macro_rules | `(tactic| ktr_units) => `(tactic| ((simp only [units_in1, units_deeper, Around.mark_units, units_make, units_ktr, cLine_is] at *); omega))
local macro_rules | `(tactic| ksw_less) => `(tactic| first | exact sub3 | with_reducible assumption | (refine sub1 (by k_mem) ?_; ksw_less) | (refine sub2 ?_; ksw_less))
local macro_rules | `(tactic| k_mem) => `(tactic| ((fail_if_success (apply List.Mem.tail)); assumption))
abbrev tupO (vs : List Value) : Obj := { cls := .type "tuple", data := .seq vs.toArray }
inductive RowsAre (led : Led) : List Value → List (Str × Int) → Prop
  | nil : RowsAre led [] []
  | cons {a : Addr} {t : Str} {tk tn : Tok} {n : Int} {vs : List Value} {rs : List (Str × Int)} : (a, tupO [.str t tk, .int n tn]) ∈ led → RowsAre led vs rs → RowsAre led (.ref a :: vs) ((t, n) :: rs)
theorem RowsAre.mono {led led' : Led} {vs : List Value} {rs : List (Str × Int)} (h : RowsAre led vs rs) (hs : ∀ p ∈ led, p ∈ led') : RowsAre led' vs rs := by
  induction h with
  | nil => exact .nil
  | cons hm _ ih => exact .cons (hs _ hm) ih
def R32 : List (Str × Int) := [(Str.ofString ".", 2), (Str.ofString ",", 2), (Str.ofString ";", 2), (Str.ofString "->", 2), (Str.ofString "\\+", 1), (Str.ofString ":-", 2), (Str.ofString ":-", 1), (Str.ofString "?-", 1), (Str.ofString "-->", 2), (Str.ofString "{}", 1), (Str.ofString "=", 2), (Str.ofString "^", 2), (Str.ofString "-", 1), (Str.ofString "-", 2), (Str.ofString "+", 2), (Str.ofString "/", 2), (Str.ofString "error", 2), (Str.ofString "$VAR", 1), (Str.ofString "catch", 3), (Str.ofString "throw", 1), (Str.ofString "!", 0), (Str.ofString "true", 0), (Str.ofString "fail", 0), (Str.ofString "false", 0), (Str.ofString "call", 1), (Str.ofString "call", 2), (Str.ofString "call", 3), (Str.ofString "call", 4), (Str.ofString "call", 5), (Str.ofString "call", 6), (Str.ofString "call", 7), (Str.ofString "call", 8)]
/-- all of the first lie above all of the second -/
def Above : Led → Led → Prop
  | [], _ => True
  | q :: r, news => AllLt q.1 news ∧ Above r news
theorem above_cons {a : Addr} {o : Obj} {r news : Led} (h1 : AllLt a news) (h2 : Above r news) : Above ((a, o) :: r) news := ⟨h1, h2⟩
theorem above_cons2 {a b : Nat} {o o' : Obj} {r news : Led} (h1 : b < a) (h2 : Above ((b, o) :: r) news) : Above ((a, o') :: (b, o) :: r) news := ⟨AllLt.up h2.1 h1, h2⟩
local macro_rules | `(tactic| kat_tups) => `(tactic| first | exact RowsAre.nil | (refine RowsAre.cons (by k_mem) ?_; kat_tups))
local macro_rules | `(tactic| kct_strs) => `(tactic| first | (refine above_cons2 (by exact And.left (by with_reducible assumption)) ?_; kct_strs) | (refine above_cons (by krn_off) ?_; exact True.intro))
set_option maxHeartbeats 8000000 in
theorem functors_spec {w : World} {mean : ExcName → Option Value} {mg mb : Str → Option Value} {rest : Led} :
    Does 2 w mean mg mb 35 [] rest (fun r led => ∃ (a : Addr) (vs : List Value) (rl : Led), r = .ref a ∧ RowsAre rl vs R32 ∧ Above ((a, tupO vs) :: rl) rest ∧ led = (a, tupO vs) :: (rl ++ rest)) := by
  unfold Does
  intro dp un gd cn cs fa ccd cl outer A₀ base h₀ L m s Q E B F X N Tp hk hd hu hret
  refine wpAny_call ?_
  fold_lay
  k_steps
  rename News _ _ _ _ => NN
  refine hret _ _ _ _ ⟨_, _, [(_, _), (_, _), (_, _), (_, _), (_, _), (_, _), (_, _), (_, _), (_, _), (_, _), (_, _), (_, _), (_, _), (_, _), (_, _), (_, _), (_, _), (_, _), (_, _), (_, _), (_, _), (_, _), (_, _), (_, _), (_, _), (_, _), (_, _), (_, _), (_, _), (_, _), (_, _), (_, _)], rfl, ?_, ?_, rfl⟩ (by k_asm) NN
  · first | kat_tups | fail
  · first | kct_strs | fail

def F29 : List Str := [Str.ofString "[]", Str.ofString ".", Str.ofString "{}", Str.ofString "-", Str.ofString "+", Str.ofString "*", Str.ofString "/", Str.ofString ",", Str.ofString "|", Str.ofString ";", Str.ofString "->", Str.ofString "\\+", Str.ofString ":-", Str.ofString "?-", Str.ofString "-->", Str.ofString "!", Str.ofString "true", Str.ofString "fail", Str.ofString "false", Str.ofString "call", Str.ofString "=", Str.ofString "^", Str.ofString "error", Str.ofString "", Str.ofString "end_of_file", Str.ofString "system", Str.ofString "$VAR", Str.ofString "catch", Str.ofString "throw"]
theorem f29_nodup : F29.Nodup := by decide +kernel
theorem next_new {T R : List Str} {t : Str} (h : T ++ t :: R = F29) : t ∉ T := by
  have h1 := f29_nodup
  rw [← h, List.nodup_append] at h1
  intro ht
  exact h1.2.2 t ht t (.head _) rfl
def key32 (n : Nat) : Int × Int := let r := R32.getD n (Str.ofString "", 0); ((F29.idxOf r.1 : Nat), r.2)
def enc32 (n : Nat) : PyData := encTuple PyData.int [(key32 n).1, (key32 n).2]
def DDn : Nat → List (PyData × PyData)
  | 0 => []
  | n + 1 => putD (enc32 n) (.int (n : Nat)) (DDn n)
def isM1 : PyData → Bool
  | .int i => i == -1
  | _ => false
theorem isM1_eq {d : PyData} (h : isM1 d = true) : d = .int (-1) := by
  cases d <;> simp [isM1] at h
  rw [h]
theorem fresh32 : ∀ n, n < 32 → (PySem.Spec.lookup (enc32 n) (DDn n)).getD (.int (-1)) = .int (-1) := by
  intro n h
  have : ∀ n, n < 32 → isM1 ((PySem.Spec.lookup (enc32 n) (DDn n)).getD (.int (-1))) = true := by decide +kernel
  exact isM1_eq (this n h)
theorem len32 : ∀ n, n < 33 → (DDn n).length ≤ 32 := by decide +kernel
theorem r32_len : R32.length = 32 := rfl
theorem r32_in : ∀ n, n < 32 → (R32.getD n (Str.ofString "", 0)).1 ∈ F29 := by decide +kernel
theorem key17 : key32 17 = (26, 1) := by decide +kernel
theorem idx_of {T : List Str} (hn : T.Nodup) {i : Int} {t : Str} (h0 : 0 ≤ i) (h : T[i.toNat]? = some t) : i = (T.idxOf t : Nat) := by
  obtain ⟨hl, he⟩ := List.getElem?_eq_some_iff.mp h
  have h1 : T.idxOf t = i.toNat := by rw [← he]; exact hn.idxOf_getElem _ hl
  rw [h1]
  omega
theorem atom29 {w : World} {mean : ExcName → Option Value} {mg mb : Str → Option Value} {x dx bt bn bf bg : Nat} {h1 h2 h3 h4 : Int} {k1 k2 k3 k4 : Tok} {nd nt : Nat} {vs : List Value} {on : Obj} {kvs : List (Str × Value)} {rest : Led} {t : Str} {tt : Tok}
    (hs : StrsAre vs F29) (hdn : on.IsDictOf (PySem.strKind P0 w) kvs) (hfp : FlatPairs PyData.str kvs (kdpD (tabOf F29))) (hlo : (bn == sysModules) = false) (ht : t ∈ F29)
    (ho : OwnOff rest [x, dx, bt, bn]) (hne : x ≠ dx ∧ x ≠ bt ∧ x ≠ bn ∧ dx ≠ bt ∧ dx ≠ bn ∧ bt ≠ bn) :
    Does 3 w mean mg mb 56 [.ref x, .str t tt] ((x, instObj 122 dx) :: (dx, dictOf [⟨h1, .str (Str.ofString "texts") k1, .ref bt⟩, ⟨h2, .str (Str.ofString "atom_numbers") k2, .ref bn⟩, ⟨h3, .str (Str.ofString "functors") k3, .ref bf⟩, ⟨h4, .str (Str.ofString "functor_numbers") k4, .ref bg⟩] nd) :: (bt, listOf vs.toArray nt) :: (bn, on) :: rest)
      (fun r led => ∃ tk vs' nt' on' kvs', r = .int (F29.idxOf t : Nat) tk ∧ StrsAre vs' F29 ∧ on'.IsDictOf (PySem.strKind P0 w) kvs' ∧ FlatPairs PyData.str kvs' (kdpD (tabOf F29)) ∧
        led = (x, instObj 122 dx) :: (dx, dictOf [⟨h1, .str (Str.ofString "texts") k1, .ref bt⟩, ⟨h2, .str (Str.ofString "atom_numbers") k2, .ref bn⟩, ⟨h3, .str (Str.ofString "functors") k3, .ref bf⟩, ⟨h4, .str (Str.ofString "functor_numbers") k4, .ref bg⟩] nd) :: (bt, listOf vs'.toArray nt') :: (bn, on') :: rest) := by
  refine does_mono (atom_spec hs hdn hfp hlo (by decide) ho hne) ?_
  rintro r l ⟨i, tk, T', vs', nt', on', kvs', rfl, hA, h1, h2, h3, rfl⟩
  rcases hA with ⟨rfl, h0, hg⟩ | ⟨_, hn, _⟩
  · rw [idx_of f29_nodup h0 hg]
    exact ⟨_, _, _, _, _, rfl, h1, h2, h3, rfl⟩
  · exact absurd ht hn
theorem above_off {l news : Led} {adr : List Addr} (h : Above l news) (hm : ∀ b ∈ adr, ∃ o, (b, o) ∈ news) : OwnOff l adr := by
  induction l with
  | nil => exact off_nil
  | cons q r ih =>
    intro p hp b hb
    rcases List.mem_cons.mp hp with rfl | hp
    · obtain ⟨o, ho⟩ := hm b hb
      exact fun e => (allLt_ne h.1 _ ho) e.symm
    · exact ih h.2 p hp b hb
theorem off_append {l r : Led} {adr : List Addr} (h1 : OwnOff l adr) (h2 : OwnOff r adr) : OwnOff (l ++ r) adr := fun p hp b hb => by
  rcases List.mem_append.mp hp with hp | hp
  · exact h1 p hp b hb
  · exact h2 p hp b hb
end Mine
end
section
-- part A2
open PySem PySem.W PySem.Calls PyProof.Rows PyProof.V PySem.Spec
namespace Mine
local macro_rules | `(tactic| krn_off) => `(tactic| first | with_reducible assumption | exact allLt_of (by with_reducible assumption) | exact And.right (by with_reducible assumption) | exact And.right (And.right (by with_reducible assumption)) | exact And.right (And.right (And.right (by with_reducible assumption))) | exact And.right (And.right (And.right (And.right (by with_reducible assumption)))) | exact And.right (And.right (And.right (And.right (And.right (by with_reducible assumption))))) | exact And.right (And.right (And.right (And.right (And.right (And.right (by with_reducible assumption)))))) | exact And.right (And.right (And.right (And.right (And.right (And.right (And.right (by with_reducible assumption))))))) | exact And.right (And.right (And.right (And.right (And.right (And.right (And.right (And.right (by with_reducible assumption)))))))) | exact And.right (And.right (And.right (And.right (And.right (And.right (And.right (And.right (And.right (by with_reducible assumption))))))))) | exact And.right (And.right (And.right (And.right (And.right (And.right (And.right (And.right (And.right (And.right (by with_reducible assumption)))))))))) | exact And.right (And.right (And.right (And.right (And.right (And.right (And.right (And.right (And.right (And.right (And.right (by with_reducible assumption))))))))))) | exact And.right (And.right (And.right (And.right (And.right (And.right (And.right (And.right (And.right (And.right (And.right (And.right (by with_reducible assumption)))))))))))) | exact And.right (And.right (And.right (And.right (And.right (And.right (And.right (And.right (And.right (And.right (And.right (And.right (And.right (by with_reducible assumption))))))))))))) | exact And.right (And.right (And.right (And.right (And.right (And.right (And.right (And.right (And.right (And.right (And.right (And.right (And.right (And.right (by with_reducible assumption)))))))))))))) | exact And.right (And.right (And.right (And.right (And.right (And.right (And.right (And.right (And.right (And.right (And.right (And.right (And.right (And.right (And.right (by with_reducible assumption))))))))))))))) | exact And.right (And.right (And.right (And.right (And.right (And.right (And.right (And.right (And.right (And.right (And.right (And.right (And.right (And.right (And.right (And.right (by with_reducible assumption)))))))))))))))) | exact And.right (And.right (And.right (And.right (And.right (And.right (And.right (And.right (And.right (And.right (And.right (And.right (And.right (And.right (And.right (And.right (And.right (by with_reducible assumption))))))))))))))))) | exact And.right (And.right (And.right (And.right (And.right (And.right (And.right (And.right (And.right (And.right (And.right (And.right (And.right (And.right (And.right (And.right (And.right (And.right (by with_reducible assumption)))))))))))))))))) | exact And.right (And.right (And.right (And.right (And.right (And.right (And.right (And.right (And.right (And.right (And.right (And.right (And.right (And.right (And.right (And.right (And.right (And.right (And.right (by with_reducible assumption))))))))))))))))))) | exact And.right (And.right (And.right (And.right (And.right (And.right (And.right (And.right (And.right (And.right (And.right (And.right (And.right (And.right (And.right (And.right (And.right (And.right (And.right (And.right (by with_reducible assumption)))))))))))))))))))) | exact And.right (And.right (And.right (And.right (And.right (And.right (And.right (And.right (And.right (And.right (And.right (And.right (And.right (And.right (And.right (And.right (And.right (And.right (And.right (And.right (And.right (by with_reducible assumption))))))))))))))))))))) | exact And.right (And.right (And.right (And.right (And.right (And.right (And.right (And.right (And.right (And.right (And.right (And.right (And.right (And.right (And.right (And.right (And.right (And.right (And.right (And.right (And.right (And.right (by with_reducible assumption)))))))))))))))))))))) | exact And.right (And.right (And.right (And.right (And.right (And.right (And.right (And.right (And.right (And.right (And.right (And.right (And.right (And.right (And.right (And.right (And.right (And.right (And.right (And.right (And.right (And.right (And.right (by with_reducible assumption))))))))))))))))))))))) | exact And.right (And.right (And.right (And.right (And.right (And.right (And.right (And.right (And.right (And.right (And.right (And.right (And.right (And.right (And.right (And.right (And.right (And.right (And.right (And.right (And.right (And.right (And.right (And.right (by with_reducible assumption)))))))))))))))))))))))) | exact And.right (And.right (And.right (And.right (And.right (And.right (And.right (And.right (And.right (And.right (And.right (And.right (And.right (And.right (And.right (And.right (And.right (And.right (And.right (And.right (And.right (And.right (And.right (And.right (And.right (by with_reducible assumption))))))))))))))))))))))))) | fail "krn_off")
local macro_rules | `(tactic| k_all) => `(tactic| ((fail_if_success (refine List.forall_mem_cons.mpr ?_)); first | assumption | exact allLt_ne (by krn_off)))
local macro_rules | `(tactic| size_fits) => `(tactic| (simp only [List.size_toArray, PySem.sizeLine_eq]; omega))
local macro_rules | `(tactic| kbt_split) => `(tactic| first | exact Rm.head | (apply Rm.tail; kbt_split) | fail "kbt_split")
local macro_rules | `(tactic| tlg_ne) => `(tactic| first | exact off_nil | exact off_nil2 | (refine off_cons (by simp only [NeAll, and_true]; omega) ?_; tlg_ne) | exact off_sub (by assumption) (by simp) | (refine off_lt (by krn_off) ?_; tlg_ne))
local macro_rules | `(tactic| fold_lay) => `(tactic| (refine' code_def ?k1 ?k2 ?k3 ?k4 ?k5 ?kA ?kF ?kK ?k6 ?k7 ?k8 ?k9 ?kB ?_ ?c2 ?c3 ?c4 ?c5; (case kA => exact rfl); (case kF => exact rfl); (case kK => first | exact rfl | assumption); (case k1 => k_asm); (case k2 => k_asm); (case k3 => k_asm); (case k4 => k_asm); (case k5 => k_asm); (case k6 => k_is); (case k7 => k_is); (case k8 => ktr_room); (case k9 => first | exact BindsTo.of_eq rfl | exact binds_K (by k_in) rfl (by k_is) rfl rfl rfl); (case c5 => decide); (case kB => exact locs rfl); (case c2 => exact rfl); (case c3 => exact rfl); (case c4 => exact rfl); k_whole; intro g' L' h' FG' F' N' B' X' T'; (try dsimp only); (try k_lift B'); (try k_fold)))
local macro_rules | `(tactic| walk_at "call ref") => `(tactic| (k_here; k_dflt (first
  | (refine' call_cls ?k1 ?k2 ?k3 ?k4 ?k5 ?k6 ?_; (case k1 => k_asm); (case k2 => k_asm); (case k3 => k_asm); (case k4 => k_is); (case k5 => k_is); (case k6 => k_is); k_whole; intro x' d' h' F' N' l1 l2; (try k_lt l1); (try k_lt2 l2); (try k_sweep); fold_lay)
  | (refine' call_meth ?k1 ?k2 ?_; (case k1 => k_asm); (case k2 => k_mem); k_whole; fold_lay)
  | (refine wpAny_call ?_; fold_lay))))
local macro_rules | `(tactic| ktr_units) => `(tactic| ((simp only [units_in1, units_deeper, Around.mark_units, units_make, units_ktr, cLine_is] at *); omega))
local macro_rules | `(tactic| ksw_less) => `(tactic| first | exact sub3 | with_reducible assumption | (refine sub1 (by k_mem) ?_; ksw_less) | (refine sub2 ?_; ksw_less))
local macro_rules | `(tactic| k_mem) => `(tactic| ((fail_if_success (apply List.Mem.tail)); assumption))
local macro_rules | `(tactic| walk_at "exec For Name Call cons nil") => `(tactic| (k_here; (rename Fr _ _ _ _ => lF'); (with_unfolding_all refine' For_turns lF' ?_; k_whole)))
local macro_rules | `(tactic| walk_at "pyIter ref") => `(tactic| (k_here; (with_reducible show wpAny _ _ (pyIter (Value.ref _)) (fun it s₂ => TurnsAt _ _ _ _ _ _ _ _ _ it s₂) _ _); (rename Fr _ _ _ _ => lF'); (rename News _ _ _ _ => lN'); (with_unfolding_all refine iter_tup (by rfl) lF' lN' (by k_mem) ?_); clear lF' lN'; intro i' lo' hlo' l1; (try k_lt l1)))
local macro_rules | `(tactic| walk_at "call ref") => `(tactic| (k_here; (with_reducible show wpAny _ _ (call (Value.ref _) [Value.ref _, Value.str _ _]) _ _ _); k_dflt (refine' does_use ?B ?F ?X ?N ?T ?hk (atom_spec ?a1 ?a2 ?a3 ?a4 ?a5 ?a6 ?a7) ?pk ?hd ?hu ?_; (case B => k_asm); (case F => k_asm); (case X => k_asm); (case N => k_asm); (case T => k_asm); (case hk => first | exact rfl | assumption); (case pk => (refine' Pk.cons ?q1 (Pk.cons ?q2 (Pk.cons ?q3 (Pk.cons ?q4 Pk.nil))); (case q1 => kbt_split); (case q2 => kbt_split); (case q3 => kbt_split); (case q4 => kbt_split))); (case a1 => k_asm); (case a2 => k_asm); (case a3 => k_asm); (case a4 => k_asm); (case a5 => k_asm); (case a6 => tlg_ne); (case a7 => omega); (case hd => ktr_room); (case hu => ktr_units)); intro r9 n9 h9 t9 p9 F9 N9; (obtain ⟨i9, tk9, T9, vs9, nt9, on9, kv9, hr9, hA9, hs9, hd9, hf9, hl9⟩ := p9); (subst hr9); (subst hl9); (try dsimp only)))
local macro_rules | `(tactic| walk_at "call ref") => `(tactic| (k_here; (with_unfolding_all show wpAny _ _ (call (Value.ref 35) []) _ _ _); k_dflt (refine' does_use ?B ?F ?X ?N ?T ?hk functors_spec ?pk ?hd ?hu ?_; (case B => k_asm); (case F => k_asm); (case X => k_asm); (case N => k_asm); (case T => k_asm); (case hk => first | exact rfl | assumption); (case pk => exact Pk.nil); (case hd => ktr_room); (case hu => ktr_units)); intro r9 n9 h9 t9 p9 F9 N9; (obtain ⟨a9, vs9, rl9, hr9, hR9, hAb9, hl9⟩ := p9); (subst hr9); (subst hl9); (try dsimp only)))
local macro_rules | `(tactic| walk_at "call ref") => `(tactic| (k_here; (with_reducible show wpAny _ _ (call (Value.ref _) [Value.ref _, Value.str _ _]) _ _ _); k_dflt (refine' does_use ?B ?F ?X ?N ?T ?hk (atom29 ?a1 ?a2 ?a3 ?a4 ?a5 ?a6 ?a7) ?pk ?hd ?hu ?_; (case B => k_asm); (case F => k_asm); (case X => k_asm); (case N => k_asm); (case T => k_asm); (case hk => first | exact rfl | assumption); (case pk => (refine' Pk.cons ?q1 (Pk.cons ?q2 (Pk.cons ?q3 (Pk.cons ?q4 Pk.nil))); (case q1 => kbt_split); (case q2 => kbt_split); (case q3 => kbt_split); (case q4 => kbt_split))); (case a1 => assumption); (case a2 => k_asm); (case a3 => assumption); (case a4 => k_asm); (case a5 => assumption); (case a6 => tlg_ne); (case a7 => omega); (case hd => ktr_room); (case hu => ktr_units)); intro r9 n9 h9 t9 p9 F9 N9; (obtain ⟨tk9, vs9, nt9, on9, kv9, hr9, hs9, hd9, hf9, hl9⟩ := p9); (subst hr9); (subst hl9); (try dsimp only)))
local macro_rules | `(tactic| walk_at "call ref") => `(tactic| (k_here; (with_reducible show wpAny _ _ (call (Value.ref _) [Value.ref _, Value.int _ _, Value.int _ _]) _ _ _); k_dflt (refine' does_use ?B ?F ?X ?N ?T ?hk (functor_spec (D := DDn _) ?a1 ?a2 ?a3 ?a4 ?a5 ?a6 ?a7) ?pk ?hd ?hu ?_; (case B => k_asm); (case F => k_asm); (case X => k_asm); (case N => k_asm); (case T => k_asm); (case hk => first | exact rfl | assumption); (case pk => (refine' Pk.cons ?q1 (Pk.cons ?q2 (Pk.cons ?q3 (Pk.cons ?q4 Pk.nil))); (case q1 => kbt_split); (case q2 => kbt_split); (case q3 => kbt_split); (case q4 => kbt_split))); (case a1 => assumption); (case a2 => omega); (case a3 => omega); (case a4 => tlg_ne); (case a5 => omega); (case a6 => assumption); (case a7 => ksw_less); (case hd => ktr_room); (case hu => ktr_units)); intro r9 n9 h9 t9 p9 F9 N9; (obtain ⟨tk9, ka9, og9, hr9, hT9, l91, l92, l93, l94, l95, hl9⟩ := p9); (subst hr9); (subst hl9); (try dsimp only)))
local macro_rules | `(tactic| walk_at "subscriptTail") => `(tactic| (k_here; (with_reducible show wpAny _ _ (subscriptTail _ _ (Value.ref _) (Value.int _ _)) _ _ _); k_dflt (refine item_tupleT (News.isTup (by k_asm) (by k_mem)) (by decide) (by decide) (by rfl) (by rfl) ?_)))
theorem allLt_mem {l : Nat} {rest : Led} (h : AllLt l rest) {a : Nat} {o : Obj} (hp : (a, o) ∈ rest) : a < l := by
  induction rest with
  | nil => cases hp
  | cons q r ih =>
    rcases List.mem_cons.mp hp with rfl | hp
    · exact h.1
    · exact ih h.2 hp
/-- a made Symbols -/
def SymMade (w : World) (rest : Led) (r : Value) (led : Led) : Prop :=
  ∃ (x d lt dn lf dg k17 : Nat) (h1 h2 h3 h4 : Int) (k1 k2 k3 k4 : Tok) (nd nt nf : Nat) (vs Fs : List Value) (on : Obj) (kvs : List (Str × Value)) (t1 t2 : Tok), r = .ref x ∧ StrsAre vs F29 ∧ on.IsDictOf (PySem.strKind P0 w) kvs ∧ FlatPairs PyData.str kvs (kdpD (tabOf F29)) ∧
    (dn == sysModules) = false ∧ Fs.length = 32 ∧ Fs[17]? = some (.ref k17) ∧ (d < x ∧ x < lt ∧ lt < dn ∧ dn < lf ∧ lf < dg ∧ dg < k17 ∧ AllLt d rest) ∧
    led = (x, instObj 122 d) :: (d, dictOf [⟨h1, .str (Str.ofString "texts") k1, .ref lt⟩, ⟨h2, .str (Str.ofString "atom_numbers") k2, .ref dn⟩, ⟨h3, .str (Str.ofString "functors") k3, .ref lf⟩, ⟨h4, .str (Str.ofString "functor_numbers") k4, .ref dg⟩] nd) :: (lt, listOf vs.toArray nt) :: (dn, on) :: (lf, listOf Fs.toArray nf) :: (k17, tupO [.int 26 t1, .int 1 t2]) :: rest
theorem rows_cons {rr : Led} {v : Value} {r : List Value} {n : Nat} (h : RowsAre rr (v :: r) (R32.drop n)) : ∃ (a : Addr) (t : Str) (tk tn : Tok) (k : Int), v = .ref a ∧ (a, tupO [.str t tk, .int k tn]) ∈ rr ∧ RowsAre rr r (R32.drop (n + 1)) ∧ n < 32 ∧ t ∈ F29 ∧
    key32 n = (((F29.idxOf t : Nat) : Int), k) := by
  have hn : n < 32 := by
    rcases Nat.lt_or_ge n 32 with h1 | h1
    · exact h1
    · rw [List.drop_eq_nil_of_le (by rw [r32_len]; exact h1)] at h
      cases h
  have hl : n < R32.length := hn
  have hin := r32_in n hn
  have hk : key32 n = (((F29.idxOf (R32.getD n (Str.ofString "", 0)).1 : Nat) : Int), (R32.getD n (Str.ofString "", 0)).2) := rfl
  rw [List.drop_eq_getElem_cons hl] at h
  generalize he : R32[n] = e at h
  have hg : R32.getD n (Str.ofString "", 0) = e := by rw [List.getD_eq_getElem?_getD, List.getElem?_eq_getElem hl, he]; rfl
  rw [hg] at hin hk
  cases h with
  | cons hm hr => exact ⟨_, _, _, _, _, rfl, hm, hr, hn, hin, hk⟩
set_option maxHeartbeats 8000000 in
theorem symbols_spec {w : World} {mean : ExcName → Option Value} {mg mb : Str → Option Value} {rest : Led} :
    Does 12 w mean mg mb 122 [] rest (SymMade w rest) := by
  unfold Does
  intro dp un gd cn cs fa ccd cl outer A₀ base h₀ L m s Q E B F X N Tp hk hd hu hret
  k_dflt (refine' call_cls ?k1 ?k2 ?k3 ?k4 ?k5 ?k6 ?_; (case k1 => k_asm); (case k2 => k_asm); (case k3 => k_asm); (case k4 => k_is); (case k5 => k_is); (case k6 => k_is); k_whole; intro x' d' h' F' N' l1 l2; (try k_lt l1); (try k_lt2 l2); (try k_sweep); cell_enter)
  have hx1 : AllLt d' rest := allLt_of l1
  have hx2 : AllLt x' rest := AllLt.up hx1 l2
  k_steps
  rename_i lt _ q1 _ _ dn _ on lon hson _ _ _ q2 _ lf _ q3 _ _ dg _ og log _ _ hiog _ q4 _ _ _ _ _ _ _ _ _ _ D _ _ _ q5 _ _ I lo hlo0 q6
  have hrr : ∃ rr : Led, rr = (lf, listOf ([] : List Value).toArray 0) :: (dg, og) :: (D, lo) :: rest := ⟨_, rfl⟩
  obtain ⟨rr, hrr⟩ := hrr
  have hoff : OwnOff rr [x', d', lt, dn] := by subst hrr; tlg_ne
  have hI : ∀ p ∈ rr, p.1 ≠ I := by subst hrr; first | k_all | fail
  have hlo : (D, lo) ∈ rr := by subst hrr; first | k_mem | fail
  refine rest_sub ((x', instObj 122 d') :: (d', _) :: (lt, listOf ([] : List Value).toArray 0) :: (dn, on) :: rr) (by rw [hrr]; ksw_less) ?_
  refine' rest_ind (J := fun r m nx => ∃ T R vs' nt on' kvs' h1 k1 h2 k2 h3 k3 h4 k4 nd, StrsAre r R ∧ T ++ R = F29 ∧ m (Str.ofString "self") = some (.ref x') ∧
    nx = (x', instObj 122 d') :: (d', dictOf [⟨h1, .str (Str.ofString "texts") k1, .ref lt⟩, ⟨h2, .str (Str.ofString "atom_numbers") k2, .ref dn⟩, ⟨h3, .str (Str.ofString "functors") k3, .ref lf⟩, ⟨h4, .str (Str.ofString "functor_numbers") k4, .ref dg⟩] nd) :: (lt, listOf vs'.toArray nt) :: (dn, on') :: rr ∧
    StrsAre vs' T ∧ on'.IsDictOf (PySem.strKind P0 w) kvs' ∧ FlatPairs PyData.str kvs' (kdpD (tabOf T))) ?turn ?done _ _ _ ?start ?off
  case start =>
    exact ⟨[], F29, [], 0, on, [], _, _, _, _, _, _, _, _, _, by (repeat (first | exact .nil | refine .cons _ _ ?_)), rfl, rfl, rfl, .nil, hson, .nil⟩
  case off =>
    first | k_all | fail
  case turn =>
    intro v r m nx h tk it hJ hoffI hcls F N
    obtain ⟨T, R, vs', nt, on', kvs', h1, k1, h2, k2, h3, k3, h4, k4, nd, hR, hTR, hm, hnx, hs', hd', hf'⟩ := hJ
    cases hR with
    | cons t tt hR =>
      rw [name_form hm] at F
      subst hnx
      have hnew := next_new hTR
      have hlen : T.length ≤ 10000 := by
        have := congrArg List.length hTR
        rw [List.length_append] at this
        have h29 : F29.length = 29 := rfl
        omega
      k_steps
      rename_i ys _ _ _ h9 t9 F9 i9 tk9 T9 vs9 nt9 on9 kv9 hA9 hs9 hd9 hf9 N9
      rcases hA9 with ⟨_, _, hg⟩ | ⟨hT9, _, _⟩
      · exact absurd (List.mem_of_getElem? hg) hnew
      · subst hT9
        refine turn_end ((x', instObj 122 d') :: (d', dictOf [⟨h1, .str (Str.ofString "texts") k1, .ref lt⟩, ⟨h2, .str (Str.ofString "atom_numbers") k2, .ref dn⟩, ⟨h3, .str (Str.ofString "functors") k3, .ref lf⟩, ⟨h4, .str (Str.ofString "functor_numbers") k4, .ref dg⟩] nd) :: (lt, listOf vs9.toArray nt9) :: (dn, on9) :: rr) F9 N9 ?_ ?_ ⟨⟨?_, trivial⟩, T ++ [t], ys, vs9, nt9, on9, kv9, h1, k1, h2, k2, h3, k3, h4, k4, nd, hR, ?_, rfl, rfl, hs9, hd9, hf9⟩
        · first | ksw_less | fail
        · first | k_all | fail
        · first | (repeat refine List.Mem.tail _ ?_); exact hlo | fail
        · rw [List.append_assoc]; exact hTR
  case done =>
    intro m nx h tk hJ F N
    obtain ⟨T, R, vs', nt, on', kvs', h1, k1, h2, k2, h3, k3, h4, k4, nd, hR, hTR, hm, hnx, hs', hd', hf'⟩ := hJ
    cases hR
    rw [List.append_nil] at hTR
    subst hTR
    rw [name_form hm] at F
    subst hnx
    subst hrr
    clear hm
    k_steps
    rename_i a9 vs9 rl9 hR9 hAb9 I2 lo2 hlo2 hl2
    obtain ⟨rr, hrr⟩ : ∃ rr : Led, rr = (a9, lo2) :: (rl9 ++ (D, lo) :: rest) := ⟨_, rfl⟩
    have hoff2 : OwnOff rr [x', d', lt, dn, lf, dg] := by
      subst hrr
      refine off_append (l := (a9, lo2) :: rl9) (above_off (show Above ((a9, lo2) :: rl9) _ from ⟨hAb9.1, hAb9.2⟩) ?_) (by first | tlg_ne | fail)
      intro b hb
      simp only [List.mem_cons, List.not_mem_nil, or_false] at hb
      rcases hb with rfl | rfl | rfl | rfl | rfl | rfl
      all_goals exact ⟨_, by first | k_mem | fail⟩
    have hI2 : ∀ p ∈ rr, p.1 ≠ I2 := by
      subst hrr
      have h5 := allLt_ne hl2.2
      intro p hp
      rcases List.mem_cons.mp hp with rfl | hp
      · exact Nat.ne_of_lt hl2.1
      · rcases List.mem_append.mp hp with hp | hp
        · exact h5 p (List.mem_append_left _ hp)
        · exact h5 p (List.mem_append_right _ (by (repeat first | exact hp | apply List.Mem.tail)))
    have hsix : @LT.lt Nat _ x' I2 ∧ @LT.lt Nat _ d' I2 ∧ @LT.lt Nat _ lt I2 ∧ @LT.lt Nat _ dn I2 ∧ @LT.lt Nat _ lf I2 ∧ @LT.lt Nat _ dg I2 := by
      refine ⟨?_, ?_, ?_, ?_, ?_, ?_⟩
      all_goals exact allLt_mem hl2.2 (List.mem_append_right _ (by first | k_mem | fail))
    have hrest : ∀ p ∈ rest, p ∈ rr := by
      subst hrr
      exact fun p hp => .tail _ (List.mem_append_right _ (.tail _ hp))
    have hlo2r : (a9, lo2) ∈ rr := by subst hrr; exact .head _
    have hRr : RowsAre rr vs9 (R32.drop 0) := by subst hrr; exact hR9.mono fun p hp => .tail _ (List.mem_append_left _ hp)
    refine rest_sub ((x', instObj 122 d') :: (d', dictOf [⟨h1, .str (Str.ofString "texts") k1, .ref lt⟩, ⟨h2, .str (Str.ofString "atom_numbers") k2, .ref dn⟩, ⟨h3, .str (Str.ofString "functors") k3, .ref lf⟩, ⟨h4, .str (Str.ofString "functor_numbers") k4, .ref dg⟩] nd) :: (lt, listOf vs'.toArray nt) :: (dn, on') :: (lf, listOf ([] : List Value).toArray 0) :: (dg, og) :: rr) ?_ ?_
    · rw [hrr]
      have hs6 : ∀ p ∈ ((x', instObj 122 d') :: (d', dictOf [⟨h1, .str (Str.ofString "texts") k1, .ref lt⟩, ⟨h2, .str (Str.ofString "atom_numbers") k2, .ref dn⟩, ⟨h3, .str (Str.ofString "functors") k3, .ref lf⟩, ⟨h4, .str (Str.ofString "functor_numbers") k4, .ref dg⟩] nd) :: (lt, listOf vs'.toArray nt) :: (dn, on') :: (lf, listOf ([] : List Value).toArray 0) :: (dg, og) :: (D, lo) :: rest : Led), p ∈ (a9, tupO vs9) :: (rl9 ++ ((x', instObj 122 d') :: (d', dictOf [⟨h1, .str (Str.ofString "texts") k1, .ref lt⟩, ⟨h2, .str (Str.ofString "atom_numbers") k2, .ref dn⟩, ⟨h3, .str (Str.ofString "functors") k3, .ref lf⟩, ⟨h4, .str (Str.ofString "functor_numbers") k4, .ref dg⟩] nd) :: (lt, listOf vs'.toArray nt) :: (dn, on') :: (lf, listOf ([] : List Value).toArray 0) :: (dg, og) :: (D, lo) :: rest)) := fun p hp => .tail _ (List.mem_append_right _ hp)
      refine List.forall_mem_cons.mpr ⟨hs6 _ (by first | k_mem | fail), List.forall_mem_cons.mpr ⟨hs6 _ (by first | k_mem | fail), List.forall_mem_cons.mpr ⟨hs6 _ (by first | k_mem | fail), List.forall_mem_cons.mpr ⟨hs6 _ (by first | k_mem | fail), List.forall_mem_cons.mpr ⟨hs6 _ (by first | k_mem | fail), List.forall_mem_cons.mpr ⟨hs6 _ (by first | k_mem | fail), List.forall_mem_cons.mpr ⟨hlo2, ?_⟩⟩⟩⟩⟩⟩⟩
      intro p hp
      rcases List.mem_append.mp hp with hp | hp
      · exact .tail _ (List.mem_append_left _ hp)
      · exact hs6 p (.tail _ (.tail _ (.tail _ (.tail _ (.tail _ (.tail _ hp))))))
    refine' rest_ind (J := fun r m nx => ∃ (Fs : List Value) (nf : Nat) (og' : Obj) (rr' : Led) (vs' : List Value) (nt : Nat) (on' : Obj) (kvs' : List (Str × Value)) (h1 h2 h3 h4 : Int) (k1 k2 k3 k4 : Tok) (nd : Nat), m (Str.ofString "self") = some (.ref x') ∧
      nx = (x', instObj 122 d') :: (d', dictOf [⟨h1, .str (Str.ofString "texts") k1, .ref lt⟩, ⟨h2, .str (Str.ofString "atom_numbers") k2, .ref dn⟩, ⟨h3, .str (Str.ofString "functors") k3, .ref lf⟩, ⟨h4, .str (Str.ofString "functor_numbers") k4, .ref dg⟩] nd) :: (lt, listOf vs'.toArray nt) :: (dn, on') :: (lf, listOf Fs.toArray nf) :: (dg, og') :: rr' ∧
      StrsAre vs' F29 ∧ on'.IsDictOf (PySem.strKind P0 w) kvs' ∧ FlatPairs PyData.str kvs' (kdpD (tabOf F29)) ∧ RowsAre rr' r (R32.drop Fs.length) ∧ Fs.length ≤ 32 ∧
      (17 < Fs.length → ∃ (k17 : Nat) (t1 t2 : Tok), Fs[17]? = some (.ref k17) ∧ (k17, tupO [.int 26 t1, .int 1 t2]) ∈ rr' ∧ dg < k17 ∧ AllLt k17 rest) ∧
      TupTab (PySem.intKind P0 w) PyData.int ((dg, og') :: rr') dg (DDn Fs.length) ∧ OwnOff rr' [x', d', lt, dn, lf, dg] ∧ (∀ p ∈ rr', p.1 ≠ I2) ∧ (a9, lo2) ∈ rr' ∧ (∀ p ∈ rest, p ∈ rr')) ?turn ?done _ _ _ ?start ?off
    case start =>
      exact ⟨[], 0, og, rr, vs', nt, on', kvs', h1, h2, h3, h4, k1, k2, k3, k4, nd, rfl, rfl, hs', hd', hf', hRr, by decide, fun h => absurd h (by decide), TupTab.ofEmpty (.head _) log hiog, hoff2, hI2, hlo2r, hrest⟩
    case off =>
      obtain ⟨s1, s2, s3, s4, s5, s6⟩ := hsix
      exact List.forall_mem_cons.mpr ⟨Nat.ne_of_lt s1, List.forall_mem_cons.mpr ⟨Nat.ne_of_lt s2, List.forall_mem_cons.mpr ⟨Nat.ne_of_lt s3, List.forall_mem_cons.mpr ⟨Nat.ne_of_lt s4, List.forall_mem_cons.mpr ⟨Nat.ne_of_lt s5, List.forall_mem_cons.mpr ⟨Nat.ne_of_lt s6, hI2⟩⟩⟩⟩⟩⟩
    case turn =>
      intro v r m nx h tk it hJ hoffI hcls F N
      obtain ⟨Fs, nf, og', rr', vs', nt, on', kvs', h1, h2, h3, h4, k1, k2, k3, k4, nd, hm, hnx, hs', hd', hf', hRr', h32, h17, hTT, hoff', hI', hlo', hrest'⟩ := hJ
      obtain ⟨ra, t, rtk, rtn, k, hv, hra, hRr2, hlt, hin, hkey⟩ := rows_cons hRr'
      have henc : enc32 Fs.length = encTuple PyData.int [((F29.idxOf t : Nat) : Int), k] := by unfold enc32; rw [hkey]
      have hfr := fresh32 _ hlt
      rw [henc] at hfr
      have hln := len32 _ (show Fs.length < 33 by omega)
      subst hv
      rw [name_form hm] at F
      subst hnx
      k_steps
      rename_i tk9 vs9 nt9 on9 kv9 hs9 hd9 hf9 _ _ _ _ tk8 ka og9 hT9 m1 m2 m3 m4 m5 _ F9 N9 _ _
      have m6 : @LT.lt Nat _ lt ka := m5.1
      have m7 : @LT.lt Nat _ dn ka := m5.2.1
      have m8 : @LT.lt Nat _ I2 ka := m5.2.2.1
      have hln1 : (Fs ++ [Value.ref ka]).length = Fs.length + 1 := by simp
      refine turn_end ((x', instObj 122 d') :: (d', dictOf [⟨h1, .str (Str.ofString "texts") k1, .ref lt⟩, ⟨h2, .str (Str.ofString "atom_numbers") k2, .ref dn⟩, ⟨h3, .str (Str.ofString "functors") k3, .ref lf⟩, ⟨h4, .str (Str.ofString "functor_numbers") k4, .ref dg⟩] nd) :: (lt, listOf vs9.toArray nt9) :: (dn, on9) :: (lf, listOf (Fs ++ [Value.ref ka]).toArray (nf + 1)) :: (dg, og9) :: (ka, tupO [.int ((F29.idxOf t : Nat) : Int) tk9, .int k rtn]) :: rr') F9 N9 ?_ ?_ ⟨⟨?_, trivial⟩, Fs ++ [Value.ref ka], nf + 1, og9, (ka, tupO [.int ((F29.idxOf t : Nat) : Int) tk9, .int k rtn]) :: rr', vs9, nt9, on9, kv9, h1, h2, h3, h4, k1, k2, k3, k4, nd, rfl, rfl, hs9, hd9, hf9, ?_, ?_, ?_, ?_, ?_, ?_, ?_, ?_⟩
      · first | ksw_less | fail
      · first | k_all | fail
      · first | (repeat refine List.Mem.tail _ ?_); exact hlo' | fail
      · rw [hln1]; exact hRr2.mono fun p hp => .tail _ hp
      · omega
      · intro h18
        rw [hln1] at h18
        by_cases he : Fs.length = 17
        · rw [he, key17] at hkey
          obtain ⟨e1, e2⟩ := Prod.mk.inj hkey
          refine ⟨ka, tk9, rtn, ?_, by rw [← e1, ← e2]; exact .head _, m4, ?_⟩
          · rw [List.getElem?_append_right (by omega), he]; rfl
          · exact allLt_of fun p hp => allLt_mem (a := p.1) (o := p.2) m5.2.2.2 (hrest' p hp)
        · obtain ⟨k17, t1, t2, g1, g2, g3, g4⟩ := h17 (by omega)
          exact ⟨k17, t1, t2, by rw [List.getElem?_append_left (by omega)]; exact g1, .tail _ g2, g3, g4⟩
      · rw [hln1]
        show TupTab _ _ _ _ (putD (enc32 Fs.length) _ _)
        rw [henc]
        exact hT9
      · exact off_cons (by simp only [NeAll, and_true]; omega) hoff'
      · exact List.forall_mem_cons.mpr ⟨Nat.ne_of_gt m8, hI'⟩
      · exact .tail _ hlo'
      · exact fun p hp => .tail _ (hrest' p hp)
    case done =>
      intro m nx h tk hJ F N
      obtain ⟨Fs, nf, og', rr', vs', nt, on', kvs', h1, h2, h3, h4, k1, k2, k3, k4, nd, hm, hnx, hs', hd', hf', hRr', h32, h17, hTT, hoff', hI', hlo', hrest'⟩ := hJ
      have hn32 : Fs.length = 32 := by
        rcases Nat.lt_or_ge Fs.length 32 with h1 | h1
        · rw [List.drop_eq_getElem_cons (show Fs.length < R32.length from h1)] at hRr'
          cases hRr'
        · omega
      obtain ⟨k17, t1, t2, g1, g2, g3, g4⟩ := h17 (by omega)
      rw [name_form hm] at F
      subst hnx
      k_steps
      rename_i kF kN _ _
      refine hret (.ref x') ((x', instObj 122 d') :: (d', dictOf [⟨h1, .str (Str.ofString "texts") k1, .ref lt⟩, ⟨h2, .str (Str.ofString "atom_numbers") k2, .ref dn⟩, ⟨h3, .str (Str.ofString "functors") k3, .ref lf⟩, ⟨h4, .str (Str.ofString "functor_numbers") k4, .ref dg⟩] nd) :: (lt, listOf vs'.toArray nt) :: (dn, on') :: (lf, listOf Fs.toArray nf) :: (k17, tupO [.int 26 t1, .int 1 t2]) :: rest) h tk
        ⟨x', d', lt, dn, lf, dg, k17, h1, h2, h3, h4, k1, k2, k3, k4, nd, nt, nf, vs', Fs, on', kvs', t1, t2, rfl, hs', hd', hf', by assumption, hn32, g1, ⟨l2, by omega, by omega, by omega, by omega, g3, hx1⟩, rfl⟩ kF ?_
      refine cb_drop kN ?_
      refine List.forall_mem_cons.mpr ⟨by first | k_mem | fail, List.forall_mem_cons.mpr ⟨by first | k_mem | fail, List.forall_mem_cons.mpr ⟨by first | k_mem | fail, List.forall_mem_cons.mpr ⟨by first | k_mem | fail, List.forall_mem_cons.mpr ⟨by first | k_mem | fail, List.forall_mem_cons.mpr ⟨by first | k_mem | fail, ?_⟩⟩⟩⟩⟩⟩
      exact fun p hp => .tail _ (.tail _ (.tail _ (.tail _ (.tail _ (.tail _ (hrest' p hp))))))
end Mine
end
section
-- part A3
open PySem PySem.W PySem.Calls PyProof.Rows PyProof.V PySem.Spec
namespace Mine
local macro_rules | `(tactic| krn_off) => `(tactic| first | with_reducible assumption | exact allLt_of (by with_reducible assumption) | exact And.right (by with_reducible assumption) | exact And.right (And.right (by with_reducible assumption)) | exact And.right (And.right (And.right (by with_reducible assumption))) | exact And.right (And.right (And.right (And.right (by with_reducible assumption)))) | exact And.right (And.right (And.right (And.right (And.right (by with_reducible assumption))))) | exact And.right (And.right (And.right (And.right (And.right (And.right (by with_reducible assumption)))))) | exact And.right (And.right (And.right (And.right (And.right (And.right (And.right (by with_reducible assumption))))))) | exact And.right (And.right (And.right (And.right (And.right (And.right (And.right (And.right (by with_reducible assumption)))))))) | exact And.right (And.right (And.right (And.right (And.right (And.right (And.right (And.right (And.right (by with_reducible assumption))))))))) | exact And.right (And.right (And.right (And.right (And.right (And.right (And.right (And.right (And.right (And.right (by with_reducible assumption)))))))))) | exact And.right (And.right (And.right (And.right (And.right (And.right (And.right (And.right (And.right (And.right (And.right (by with_reducible assumption))))))))))) | exact And.right (And.right (And.right (And.right (And.right (And.right (And.right (And.right (And.right (And.right (And.right (And.right (by with_reducible assumption)))))))))))) | exact And.right (And.right (And.right (And.right (And.right (And.right (And.right (And.right (And.right (And.right (And.right (And.right (And.right (by with_reducible assumption))))))))))))) | exact And.right (And.right (And.right (And.right (And.right (And.right (And.right (And.right (And.right (And.right (And.right (And.right (And.right (And.right (by with_reducible assumption)))))))))))))) | exact And.right (And.right (And.right (And.right (And.right (And.right (And.right (And.right (And.right (And.right (And.right (And.right (And.right (And.right (And.right (by with_reducible assumption))))))))))))))) | exact And.right (And.right (And.right (And.right (And.right (And.right (And.right (And.right (And.right (And.right (And.right (And.right (And.right (And.right (And.right (And.right (by with_reducible assumption)))))))))))))))) | exact And.right (And.right (And.right (And.right (And.right (And.right (And.right (And.right (And.right (And.right (And.right (And.right (And.right (And.right (And.right (And.right (And.right (by with_reducible assumption))))))))))))))))) | exact And.right (And.right (And.right (And.right (And.right (And.right (And.right (And.right (And.right (And.right (And.right (And.right (And.right (And.right (And.right (And.right (And.right (And.right (by with_reducible assumption)))))))))))))))))) | exact And.right (And.right (And.right (And.right (And.right (And.right (And.right (And.right (And.right (And.right (And.right (And.right (And.right (And.right (And.right (And.right (And.right (And.right (And.right (by with_reducible assumption))))))))))))))))))) | exact And.right (And.right (And.right (And.right (And.right (And.right (And.right (And.right (And.right (And.right (And.right (And.right (And.right (And.right (And.right (And.right (And.right (And.right (And.right (And.right (by with_reducible assumption)))))))))))))))))))) | exact And.right (And.right (And.right (And.right (And.right (And.right (And.right (And.right (And.right (And.right (And.right (And.right (And.right (And.right (And.right (And.right (And.right (And.right (And.right (And.right (And.right (by with_reducible assumption))))))))))))))))))))) | exact And.right (And.right (And.right (And.right (And.right (And.right (And.right (And.right (And.right (And.right (And.right (And.right (And.right (And.right (And.right (And.right (And.right (And.right (And.right (And.right (And.right (And.right (by with_reducible assumption)))))))))))))))))))))) | exact And.right (And.right (And.right (And.right (And.right (And.right (And.right (And.right (And.right (And.right (And.right (And.right (And.right (And.right (And.right (And.right (And.right (And.right (And.right (And.right (And.right (And.right (And.right (by with_reducible assumption))))))))))))))))))))))) | exact And.right (And.right (And.right (And.right (And.right (And.right (And.right (And.right (And.right (And.right (And.right (And.right (And.right (And.right (And.right (And.right (And.right (And.right (And.right (And.right (And.right (And.right (And.right (And.right (by with_reducible assumption)))))))))))))))))))))))) | exact And.right (And.right (And.right (And.right (And.right (And.right (And.right (And.right (And.right (And.right (And.right (And.right (And.right (And.right (And.right (And.right (And.right (And.right (And.right (And.right (And.right (And.right (And.right (And.right (And.right (by with_reducible assumption))))))))))))))))))))))))) | fail "krn_off")
local macro_rules | `(tactic| k_all) => `(tactic| ((fail_if_success (refine List.forall_mem_cons.mpr ?_)); first | assumption | exact allLt_ne (by krn_off)))
local macro_rules | `(tactic| size_fits) => `(tactic| (simp only [List.size_toArray, PySem.sizeLine_eq]; omega))
local macro_rules | `(tactic| kbt_split) => `(tactic| first | exact Rm.head | (apply Rm.tail; kbt_split) | fail "kbt_split")
local macro_rules | `(tactic| tlg_ne) => `(tactic| first | exact off_nil | exact off_nil2 | (refine off_cons (by simp only [NeAll, and_true]; omega) ?_; tlg_ne) | exact off_sub (by assumption) (by simp) | (refine off_lt (by krn_off) ?_; tlg_ne))
local macro_rules | `(tactic| fold_lay) => `(tactic| (refine' code_def ?k1 ?k2 ?k3 ?k4 ?k5 ?kA ?kF ?kK ?k6 ?k7 ?k8 ?k9 ?kB ?_ ?c2 ?c3 ?c4 ?c5; (case kA => exact rfl); (case kF => exact rfl); (case kK => first | exact rfl | assumption); (case k1 => k_asm); (case k2 => k_asm); (case k3 => k_asm); (case k4 => k_asm); (case k5 => k_asm); (case k6 => k_is); (case k7 => k_is); (case k8 => ktr_room); (case k9 => first | exact BindsTo.of_eq rfl | exact binds_K (by k_in) rfl (by k_is) rfl rfl rfl); (case c5 => decide); (case kB => exact locs rfl); (case c2 => exact rfl); (case c3 => exact rfl); (case c4 => exact rfl); k_whole; intro g' L' h' FG' F' N' B' X' T'; (try dsimp only); (try k_lift B'); (try k_fold)))
local macro_rules | `(tactic| walk_at "call ref") => `(tactic| (k_here; k_dflt (first
  | (refine' call_cls ?k1 ?k2 ?k3 ?k4 ?k5 ?k6 ?_; (case k1 => k_asm); (case k2 => k_asm); (case k3 => k_asm); (case k4 => k_is); (case k5 => k_is); (case k6 => k_is); k_whole; intro x' d' h' F' N' l1 l2; (try k_lt l1); (try k_lt2 l2); (try k_sweep); fold_lay)
  | (refine' call_meth ?k1 ?k2 ?_; (case k1 => k_asm); (case k2 => k_mem); k_whole; fold_lay)
  | (refine wpAny_call ?_; fold_lay))))
local macro_rules | `(tactic| ktr_units) => `(tactic| ((simp only [units_in1, units_deeper, Around.mark_units, units_make, units_ktr, cLine_is] at *); omega))
local macro_rules | `(tactic| ksw_less) => `(tactic| first | exact sub3 | with_reducible assumption | (refine sub1 (by k_mem) ?_; ksw_less) | (refine sub2 ?_; ksw_less))
local macro_rules | `(tactic| k_mem) => `(tactic| ((fail_if_success (apply List.Mem.tail)); assumption))

theorem valueAt_stored_ne {kvs : List (Int × Value)} {k j : Int} {v : Value} (h : k ≠ j) : valueAt (stored kvs k v) j = valueAt kvs j := by
  have aux : ∀ l : List (Int × Value), valueAt (l.map fun kv => if kv.1 = k then (kv.1, v) else kv) j = valueAt l j := by
    intro l
    induction l with
    | nil => rfl
    | cons q l ih =>
      unfold valueAt at ih ⊢
      by_cases h1 : q.1 = k
      · have h2 : q.1 ≠ j := h1 ▸ h
        simp only [List.map_cons, h1, if_true, List.find?_cons, decide_eq_false h]
        exact ih
      · by_cases h2 : q.1 = j
        · rw [List.map_cons, if_neg h1, List.find?_cons_of_pos (by simpa using h2), List.find?_cons_of_pos (by simpa using h2)]
        · simp only [List.map_cons, h1, if_false, List.find?_cons, decide_eq_false h2]
          exact ih
  unfold stored
  split
  · exact aux kvs
  · unfold valueAt
    rw [List.find?_append]
    simp [h]
theorem in_top {w : World} {A : Around} {E : Value → Shared → Prop} {s : Shared} {t : Addr} {items : Array Value} {ys : List Str} {x : Str} {u : Tok} {Q : Value → Shared → Prop} (b : Bool)
    (ht : IsTup s.heap t items) (hi : StrsAre items.toList ys) (hb : ys.any (· == x) = b) (h : Q (.bool b) s) : wpAny (model P0 w) A (compareOp .In (.str x u) (.ref t)) Q E s :=
  in_tuple_strs ht hi (by rw [hb]; exact h)
local macro_rules | `(tactic| walk_at "compareOp In str ref") => `(tactic| (k_here; k_dflt (first | refine in_top true (kun_topT (by k_asm) (by k_asm) (by k_is)) (by (repeat constructor)) (by decide) ?_ | refine in_top false (kun_topT (by k_asm) (by k_asm) (by k_is)) (by (repeat constructor)) (by decide) ?_)))
abbrev opsDict (h1 h2 h3 h4 : Int) (k1 k2 k3 k4 : Tok) (x bp bi bq : Nat) (nd : Nat) : Obj :=
  dictOf [⟨h1, .str (Str.ofString "symbols") k1, .ref x⟩, ⟨h2, .str (Str.ofString "prefixes") k2, .ref bp⟩, ⟨h3, .str (Str.ofString "infixes") k3, .ref bi⟩, ⟨h4, .str (Str.ofString "postfixes") k4, .ref bq⟩] nd
def Kinds5 : List Str := [Str.ofString "fx", Str.ofString "fy", Str.ofString "xfx", Str.ofString "xfy", Str.ofString "yfx"]
local macro_rules | `(tactic| walk_at "setItem ref int") => `(tactic| (k_here; k_dflt (refine' kda_set (knd := PySem.intKind _ _) ?F ?N ?U ?d (intKind_is _ _ _ _) ?z ?_; (case F => k_asm); (case N => k_asm); (case U => k_updF); (case d => k_asm); (case z => (rw [sizeLine_eq]; omega))); intro h9 o9 F9 N9 hd9; (try dsimp only at N9)))
set_option maxHeartbeats 8000000 in
theorem add_spec {w : World} {mean : ExcName → Option Value} {mg mb : Str → Option Value} {rest : Led} {y dy bp bi bq x : Nat} {h1 h2 h3 h4 : Int} {k1 k2 k3 k4 : Tok} {nd n : Nat} {op oi : Obj} {kp ki : List (Int × Value)} {p a : Int} {t : Str} {tp tt ta : Tok}
    (hp : op.IsDictOf (PySem.intKind P0 w) kp) (hi : oi.IsDictOf (PySem.intKind P0 w) ki) (hnp : valueAt kp 26 = none) (hlp : kp.length ≤ n) (hli : ki.length ≤ n) (hn : n ≤ 10000)
    (hp0 : 0 < p) (ht : t ∈ Kinds5) (ha : a ≠ 26) (ho : OwnOff rest [y, dy, bp, bi]) (hne : y ≠ dy ∧ y ≠ bp ∧ y ≠ bi ∧ dy ≠ bp ∧ dy ≠ bi ∧ bp ≠ bi) :
    Does 4 w mean mg mb 277 [.ref y, .int p tp, .str t tt, .int a ta] ((y, instObj 287 dy) :: (dy, opsDict h1 h2 h3 h4 k1 k2 k3 k4 x bp bi bq nd) :: (bp, op) :: (bi, oi) :: rest)
      (fun r led => ∃ op' oi' kp' ki', r = .none ∧ op'.IsDictOf (PySem.intKind P0 w) kp' ∧ oi'.IsDictOf (PySem.intKind P0 w) ki' ∧ valueAt kp' 26 = none ∧ kp'.length ≤ n + 1 ∧ ki'.length ≤ n + 1 ∧
        led = (y, instObj 287 dy) :: (dy, opsDict h1 h2 h3 h4 k1 k2 k3 k4 x bp bi bq nd) :: (bp, op') :: (bi, oi') :: rest) := by
  unfold Does
  intro dp un gd cn cs fa ccd cl outer A₀ base h₀ L m s Q E B F X N Tp hk hd hu hret
  unfold Kinds5 at ht
  simp only [List.mem_cons, List.not_mem_nil, or_false] at ht
  have hlp' : kp.length ≤ 10000 := by omega
  have hli' : ki.length ≤ 10000 := by omega
  rcases ht with rfl | rfl | rfl | rfl | rfl
  all_goals refine wpAny_call ?_
  all_goals k_dflt cell_enter
  all_goals k_steps
  · rename_i o9 _ _ hd9 kF kN _ _
    exact hret _ _ _ _ ⟨o9, oi, stored kp a _, ki, rfl, hd9, hi, by rw [valueAt_stored_ne ha]; exact hnp, Nat.le_trans (stored_length_le _ _ _) (by omega), by omega, rfl⟩ kF (cb_drop kN (by ksw_less))
  · rename_i o9 _ _ hd9 kF kN _ _
    exact hret _ _ _ _ ⟨o9, oi, stored kp a _, ki, rfl, hd9, hi, by rw [valueAt_stored_ne ha]; exact hnp, Nat.le_trans (stored_length_le _ _ _) (by omega), by omega, rfl⟩ kF (cb_drop kN (by ksw_less))
  all_goals (rename_i o9 _ _ hd9 kF kN _ _; exact hret _ _ _ _ ⟨op, o9, kp, stored ki a _, rfl, hp, hd9, hnp, by omega, Nat.le_trans (stored_length_le _ _ _) (by omega), rfl⟩ kF (cb_drop kN (by ksw_less)))
def GoodRow (p : Int) (t : Str) (ns : List Str) : Prop := 0 < p ∧ t ∈ Kinds5 ∧ (∀ s ∈ ns, s ≠ Str.ofString "$VAR") ∧ ns.length ≤ 10
instance (p : Int) (t : Str) (ns : List Str) : Decidable (GoodRow p t ns) := by unfold GoodRow; infer_instance
inductive RowsGood (led : Led) : List Value → Prop
  | nil : RowsGood led []
  | cons {a nm : Addr} {p : Int} {t : Str} {ns : List Str} {tp tt : Tok} {vs us : List Value} : (a, tupO [.int p tp, .str t tt, .ref nm]) ∈ led → (nm, tupO us) ∈ led → StrsAre us ns → GoodRow p t ns → RowsGood led vs → RowsGood led (.ref a :: vs)
theorem RowsGood.mono {led led' : Led} {vs : List Value} (h : RowsGood led vs) (hs : ∀ p ∈ led, p ∈ led') : RowsGood led' vs := by
  induction h with
  | nil => exact .nil
  | cons h1 h2 h3 h4 _ ih => exact .cons (hs _ h1) (hs _ h2) h3 h4 ih
local macro_rules | `(tactic| kat_tups) => `(tactic| first | exact RowsGood.nil | (refine RowsGood.cons (by k_mem) (by k_mem) (by (repeat constructor)) (by decide +kernel) ?_; kat_tups))
local macro_rules | `(tactic| kct_strs) => `(tactic| first | (refine above_cons2 (by exact And.left (by with_reducible assumption)) ?_; kct_strs) | (refine above_cons (by krn_off) ?_; exact True.intro))
set_option maxHeartbeats 8000000 in
theorem rows13_spec {w : World} {mean : ExcName → Option Value} {mg mb : Str → Option Value} {rest : Led} :
    Does 2 w mean mg mb 206 [] rest (fun r led => ∃ (a : Addr) (vs : List Value) (rl : Led), r = .ref a ∧ RowsGood rl vs ∧ vs.length = 13 ∧ Above ((a, tupO vs) :: rl) rest ∧ led = (a, tupO vs) :: (rl ++ rest)) := by
  unfold Does
  intro dp un gd cn cs fa ccd cl outer A₀ base h₀ L m s Q E B F X N Tp hk hd hu hret
  refine wpAny_call ?_
  fold_lay
  k_steps
  rename News _ _ _ _ => NN
  refine hret _ _ _ _ ⟨_, _, [(_, _), (_, _), (_, _), (_, _), (_, _), (_, _), (_, _), (_, _), (_, _), (_, _), (_, _), (_, _), (_, _), (_, _), (_, _), (_, _), (_, _), (_, _), (_, _), (_, _), (_, _), (_, _), (_, _), (_, _), (_, _), (_, _)], rfl, ?_, rfl, ?_, rfl⟩ (by k_asm) NN
  · first | kat_tups | fail
  · first | kct_strs | fail
end Mine
end
section
-- part A4
open PySem PySem.W PySem.Calls PyProof.Rows PyProof.V PySem.Spec
namespace Mine
local macro_rules | `(tactic| krn_off) => `(tactic| first | with_reducible assumption | exact allLt_of (by with_reducible assumption) | exact And.right (by with_reducible assumption) | exact And.right (And.right (by with_reducible assumption)) | exact And.right (And.right (And.right (by with_reducible assumption))) | exact And.right (And.right (And.right (And.right (by with_reducible assumption)))) | exact And.right (And.right (And.right (And.right (And.right (by with_reducible assumption))))) | exact And.right (And.right (And.right (And.right (And.right (And.right (by with_reducible assumption)))))) | exact And.right (And.right (And.right (And.right (And.right (And.right (And.right (by with_reducible assumption))))))) | exact And.right (And.right (And.right (And.right (And.right (And.right (And.right (And.right (by with_reducible assumption)))))))) | exact And.right (And.right (And.right (And.right (And.right (And.right (And.right (And.right (And.right (by with_reducible assumption))))))))) | exact And.right (And.right (And.right (And.right (And.right (And.right (And.right (And.right (And.right (And.right (by with_reducible assumption)))))))))) | exact And.right (And.right (And.right (And.right (And.right (And.right (And.right (And.right (And.right (And.right (And.right (by with_reducible assumption))))))))))) | exact And.right (And.right (And.right (And.right (And.right (And.right (And.right (And.right (And.right (And.right (And.right (And.right (by with_reducible assumption)))))))))))) | exact And.right (And.right (And.right (And.right (And.right (And.right (And.right (And.right (And.right (And.right (And.right (And.right (And.right (by with_reducible assumption))))))))))))) | exact And.right (And.right (And.right (And.right (And.right (And.right (And.right (And.right (And.right (And.right (And.right (And.right (And.right (And.right (by with_reducible assumption)))))))))))))) | exact And.right (And.right (And.right (And.right (And.right (And.right (And.right (And.right (And.right (And.right (And.right (And.right (And.right (And.right (And.right (by with_reducible assumption))))))))))))))) | exact And.right (And.right (And.right (And.right (And.right (And.right (And.right (And.right (And.right (And.right (And.right (And.right (And.right (And.right (And.right (And.right (by with_reducible assumption)))))))))))))))) | exact And.right (And.right (And.right (And.right (And.right (And.right (And.right (And.right (And.right (And.right (And.right (And.right (And.right (And.right (And.right (And.right (And.right (by with_reducible assumption))))))))))))))))) | exact And.right (And.right (And.right (And.right (And.right (And.right (And.right (And.right (And.right (And.right (And.right (And.right (And.right (And.right (And.right (And.right (And.right (And.right (by with_reducible assumption)))))))))))))))))) | exact And.right (And.right (And.right (And.right (And.right (And.right (And.right (And.right (And.right (And.right (And.right (And.right (And.right (And.right (And.right (And.right (And.right (And.right (And.right (by with_reducible assumption))))))))))))))))))) | exact And.right (And.right (And.right (And.right (And.right (And.right (And.right (And.right (And.right (And.right (And.right (And.right (And.right (And.right (And.right (And.right (And.right (And.right (And.right (And.right (by with_reducible assumption)))))))))))))))))))) | exact And.right (And.right (And.right (And.right (And.right (And.right (And.right (And.right (And.right (And.right (And.right (And.right (And.right (And.right (And.right (And.right (And.right (And.right (And.right (And.right (And.right (by with_reducible assumption))))))))))))))))))))) | exact And.right (And.right (And.right (And.right (And.right (And.right (And.right (And.right (And.right (And.right (And.right (And.right (And.right (And.right (And.right (And.right (And.right (And.right (And.right (And.right (And.right (And.right (by with_reducible assumption)))))))))))))))))))))) | exact And.right (And.right (And.right (And.right (And.right (And.right (And.right (And.right (And.right (And.right (And.right (And.right (And.right (And.right (And.right (And.right (And.right (And.right (And.right (And.right (And.right (And.right (And.right (by with_reducible assumption))))))))))))))))))))))) | exact And.right (And.right (And.right (And.right (And.right (And.right (And.right (And.right (And.right (And.right (And.right (And.right (And.right (And.right (And.right (And.right (And.right (And.right (And.right (And.right (And.right (And.right (And.right (And.right (by with_reducible assumption)))))))))))))))))))))))) | exact And.right (And.right (And.right (And.right (And.right (And.right (And.right (And.right (And.right (And.right (And.right (And.right (And.right (And.right (And.right (And.right (And.right (And.right (And.right (And.right (And.right (And.right (And.right (And.right (And.right (by with_reducible assumption))))))))))))))))))))))))) | fail "krn_off")
local macro_rules | `(tactic| k_all) => `(tactic| ((fail_if_success (refine List.forall_mem_cons.mpr ?_)); first | assumption | exact allLt_ne (by krn_off)))
local macro_rules | `(tactic| size_fits) => `(tactic| (simp only [List.size_toArray, PySem.sizeLine_eq]; omega))
local macro_rules | `(tactic| kbt_split) => `(tactic| first | exact Rm.head | (apply Rm.tail; kbt_split) | fail "kbt_split")
local macro_rules | `(tactic| tlg_ne) => `(tactic| first | exact off_nil | exact off_nil2 | (refine off_cons (by simp only [NeAll, and_true]; omega) ?_; tlg_ne) | exact off_sub (by assumption) (by first | (simp; done) | fail "tlg") | (refine off_lt (by krn_off) ?_; tlg_ne))
local macro_rules | `(tactic| fold_lay) => `(tactic| (refine' code_def ?k1 ?k2 ?k3 ?k4 ?k5 ?kA ?kF ?kK ?k6 ?k7 ?k8 ?k9 ?kB ?_ ?c2 ?c3 ?c4 ?c5; (case kA => exact rfl); (case kF => exact rfl); (case kK => first | exact rfl | assumption); (case k1 => k_asm); (case k2 => k_asm); (case k3 => k_asm); (case k4 => k_asm); (case k5 => k_asm); (case k6 => k_is); (case k7 => k_is); (case k8 => ktr_room); (case k9 => first | exact BindsTo.of_eq rfl | exact binds_K (by k_in) rfl (by k_is) rfl rfl rfl); (case c5 => decide); (case kB => exact locs rfl); (case c2 => exact rfl); (case c3 => exact rfl); (case c4 => exact rfl); k_whole; intro g' L' h' FG' F' N' B' X' T'; (try dsimp only); (try k_lift B'); (try k_fold)))
local macro_rules | `(tactic| walk_at "call ref") => `(tactic| (k_here; k_dflt (first
  | (refine' call_cls ?k1 ?k2 ?k3 ?k4 ?k5 ?k6 ?_; (case k1 => k_asm); (case k2 => k_asm); (case k3 => k_asm); (case k4 => k_is); (case k5 => k_is); (case k6 => k_is); k_whole; intro x' d' h' F' N' l1 l2; (try k_lt l1); (try k_lt2 l2); (try k_sweep); fold_lay)
  | (refine' call_meth ?k1 ?k2 ?_; (case k1 => k_asm); (case k2 => k_mem); k_whole; fold_lay)
  | (refine wpAny_call ?_; fold_lay))))
local macro_rules | `(tactic| ktr_units) => `(tactic| ((simp only [units_in1, units_deeper, Around.mark_units, units_make, units_ktr, cLine_is] at *); omega))
local macro_rules | `(tactic| ksw_less) => `(tactic| first | exact sub3 | with_reducible assumption | (refine sub1 (by k_mem) ?_; ksw_less) | (refine sub2 ?_; ksw_less))
local macro_rules | `(tactic| k_mem) => `(tactic| ((fail_if_success (apply List.Mem.tail)); assumption))

abbrev symDict (h1 h2 h3 h4 : Int) (k1 k2 k3 k4 : Tok) (bt bn bf bg : Nat) (nd : Nat) : Obj :=
  dictOf [⟨h1, .str (Str.ofString "texts") k1, .ref bt⟩, ⟨h2, .str (Str.ofString "atom_numbers") k2, .ref bn⟩, ⟨h3, .str (Str.ofString "functors") k3, .ref bf⟩, ⟨h4, .str (Str.ofString "functor_numbers") k4, .ref bg⟩] nd
theorem iter_tup2 {prog : Program} {w : World} {A : Around} {E : Value → Shared → Prop} {s : Shared} {env : Env} {h₀ : Heap} {target : Expr} {body : List Stmt} {Q : Flow → Shared → Prop} {ax : Addr} {vs : List Value} {n : Nat} {m₀ : Str → Option Value} {news : Led}
    (hh : A.handled = none) (F : Fr h₀ env.locals s.heap m₀) (N : News h₀ env.locals s.heap news) (hm : (ax, ({ cls := .type "tuple", data := .seq vs.toArray n } : Obj)) ∈ news)
    (rest₀ : ∀ (I : Addr), (∀ p ∈ news, p.1 < I) → Rest prog w A E h₀ env target body Q s I "tuple_iterator" (ax, { cls := .type "tuple", data := .seq vs.toArray n }) vs m₀ news) :
    wpAny (model prog w) A (pyIter (.ref ax)) (fun it s₂ => TurnsAt prog w A h₀ env target body Q E it s₂) E s :=
  iter_tupTurns (vs := vs) hh F N hm rfl rfl fun I l => rest₀ I l
theorem rest_go {prog : Program} {w : World} {A : Around} {E : Value → Shared → Prop} {s : Shared} {env : Env} {h₀ : Heap} {target : Expr} {body : List Stmt} {Q : Flow → Shared → Prop} {I : Addr} {cls : String} {lp : Addr × Obj} {vs : List Value} {m : Str → Option Value} {nx : Led} (J : List Value → (Str → Option Value) → Led → Prop)
    (turn : ∀ v r m nx h tk it, J (v :: r) m nx → (∀ p ∈ nx, p.1 ≠ I) → it.cls = .type cls → Fr h₀ env.locals h m → News h₀ env.locals h ((I, it) :: nx) →
      wpAny (model prog w) A (assign target env v) (fun _ s₂ => wpAny (model prog w) A (execs body env) (UnrPostW h₀ env.locals { s with heap := h, toks := tk } [(I, it)] (fun m' n' => SubL [lp] n' ∧ J r m' n') Q) E s₂) E { s with heap := h, toks := tk })
    (done : ∀ m nx h tk, J [] m nx → Fr h₀ env.locals h m → News h₀ env.locals h nx → Q .next { s with heap := h, toks := tk })
    (st : ∃ nx', (∀ p ∈ nx', p ∈ nx) ∧ J vs m nx' ∧ ∀ p ∈ nx', p.1 ≠ I) : Rest prog w A E h₀ env target body Q s I cls lp vs m nx := by
  obtain ⟨nx', hs, hJ, ho⟩ := st
  exact rest_sub nx' hs (rest_ind J turn done vs m nx' hJ ho)
theorem ne_of_all {I : Nat} {a : Nat} {o : Obj} {r : Led} (h : a < I) (k : ∀ p ∈ r, p.1 ≠ I) : ∀ p ∈ (a, o) :: r, p.1 ≠ I := List.forall_mem_cons.mpr ⟨Nat.ne_of_lt h, k⟩
/-- texts that have grown from the fixed ones -/
def TOk (T : List Str) : Prop := T[26]? = some (Str.ofString "$VAR") ∧ 29 ≤ T.length
theorem tok_f29 : TOk F29 := ⟨rfl, by decide⟩
theorem tok_atom {T T' : List Str} {t : Str} {i : Int} (h : TOk T) (ht : t ≠ Str.ofString "$VAR") (hA : AtomTo T t T' i) : TOk T' ∧ i ≠ 26 ∧ T'.length ≤ T.length + 1 ∧ 0 ≤ i ∧ T'[i.toNat]? = some t := by
  rcases hA with ⟨rfl, h0, hg⟩ | ⟨rfl, hn, rfl⟩
  · refine ⟨h, ?_, by omega, h0, hg⟩
    rintro rfl
    rw [show (26 : Int).toNat = 26 from rfl, h.1] at hg
    exact ht (Option.some.inj hg).symm
  · refine ⟨⟨?_, ?_⟩, ?_, ?_, ?_, ?_⟩
    · rw [List.getElem?_append_left (by have := h.2; omega)]; exact h.1
    · rw [List.length_append]; have := h.2; simp; omega
    · have := h.2; omega
    · simp
    · omega
    · simp
theorem atomG {w : World} {mean : ExcName → Option Value} {mg mb : Str → Option Value} {x dx bt bn bf bg : Nat} {h1 h2 h3 h4 : Int} {k1 k2 k3 k4 : Tok} {nd nt n : Nat} {vs : List Value} {T : List Str} {on : Obj} {kvs : List (Str × Value)} {rest : Led} {t : Str} {tt : Tok}
    (hs : StrsAre vs T) (hdn : on.IsDictOf (PySem.strKind P0 w) kvs) (hfp : FlatPairs PyData.str kvs (kdpD (tabOf T))) (hlo : (bn == sysModules) = false) (hT : TOk T) (hlen : T.length ≤ n) (hn : n ≤ 10000) (ht : t ≠ Str.ofString "$VAR")
    (ho : OwnOff rest [x, dx, bt, bn]) (hne : x ≠ dx ∧ x ≠ bt ∧ x ≠ bn ∧ dx ≠ bt ∧ dx ≠ bn ∧ bt ≠ bn) :
    Does 3 w mean mg mb 56 [.ref x, .str t tt] ((x, instObj 122 dx) :: (dx, symDict h1 h2 h3 h4 k1 k2 k3 k4 bt bn bf bg nd) :: (bt, listOf vs.toArray nt) :: (bn, on) :: rest)
      (fun r led => ∃ i tk T' vs' nt' on' kvs', r = .int i tk ∧ i ≠ 26 ∧ 0 ≤ i ∧ T'[i.toNat]? = some t ∧ TOk T' ∧ T'.length ≤ n + 1 ∧ StrsAre vs' T' ∧ on'.IsDictOf (PySem.strKind P0 w) kvs' ∧ FlatPairs PyData.str kvs' (kdpD (tabOf T')) ∧
        led = (x, instObj 122 dx) :: (dx, symDict h1 h2 h3 h4 k1 k2 k3 k4 bt bn bf bg nd) :: (bt, listOf vs'.toArray nt') :: (bn, on') :: rest) := by
  refine does_mono (atom_spec hs hdn hfp hlo (by omega) ho hne) ?_
  rintro r l ⟨i, tk, T', vs', nt', on', kvs', rfl, hA, h1, h2, h3, rfl⟩
  obtain ⟨a1, a2, a3, a4, a5⟩ := tok_atom hT ht hA
  exact ⟨i, tk, T', vs', nt', on', kvs', rfl, a2, a4, a5, a1, by omega, h1, h2, h3, rfl⟩
local macro_rules | `(tactic| walk_at "call ref") => `(tactic| (k_here; (with_unfolding_all show wpAny _ _ (call (Value.ref 206) []) _ _ _); k_dflt (refine' does_use ?B ?F ?X ?N ?T ?hk rows13_spec ?pk ?hd ?hu ?_; (case B => k_asm); (case F => k_asm); (case X => k_asm); (case N => k_asm); (case T => k_asm); (case hk => first | exact rfl | assumption); (case pk => exact Pk.nil); (case hd => ktr_room); (case hu => ktr_units)); intro r9 n9 h9 t9 p9 F9 N9; (obtain ⟨a9, vs9, rl9, hr9, hR9, hlen9, hAb9, hl9⟩ := p9); (subst hr9); (subst hl9); (try dsimp only)))
local macro_rules | `(tactic| walk_at "call ref") => `(tactic| (k_here; (with_reducible show wpAny _ _ (call (Value.ref _) [Value.ref _, Value.str _ _]) _ _ _); k_dflt (refine' does_use ?B ?F ?X ?N ?T ?hk (atomG ?a1 ?a2 ?a3 ?a4 ?a5 ?a6 ?a7 ?a8 ?a9 ?a10) ?pk ?hd ?hu ?_; (case B => k_asm); (case F => k_asm); (case X => k_asm); (case N => k_asm); (case T => k_asm); (case hk => first | exact rfl | assumption); (case pk => (refine' Pk.cons ?q1 (Pk.cons ?q2 (Pk.cons ?q3 (Pk.cons ?q4 Pk.nil))); (case q1 => kbt_split); (case q2 => kbt_split); (case q3 => kbt_split); (case q4 => kbt_split))); (case a1 => assumption); (case a2 => k_asm); (case a3 => assumption); (case a4 => k_asm); (case a5 => assumption); (case a6 => assumption); (case a7 => omega); (case a8 => assumption); (case a9 => tlg_ne); (case a10 => omega); (case hd => ktr_room); (case hu => ktr_units)); intro r9 n9 h9 t9 p9 F9 N9; (obtain ⟨i9, tk9, T9, vs9, nt9, on9, kv9, hr9, hi9, hi0, hig, hT9, hl9, hs9, hd9, hf9, hled9⟩ := p9); (subst hr9); (subst hled9); (try dsimp only)))
local macro_rules | `(tactic| walk_at "call ref") => `(tactic| (k_here; (with_unfolding_all show wpAny _ _ (call (Value.ref 277) [Value.ref _, Value.int _ _, Value.str _ _, Value.int _ _]) _ _ _); k_dflt (refine' does_use ?B ?F ?X ?N ?T ?hk (add_spec ?a1 ?a2 ?a3 ?a4 ?a5 ?a6 ?a7 ?a8 ?a9 ?a10 ?a11) ?pk ?hd ?hu ?_; (case B => k_asm); (case F => k_asm); (case X => k_asm); (case N => k_asm); (case T => k_asm); (case hk => first | exact rfl | assumption); (case pk => (refine' Pk.cons ?q1 (Pk.cons ?q2 (Pk.cons ?q3 (Pk.cons ?q4 Pk.nil))); (case q1 => kbt_split); (case q2 => kbt_split); (case q3 => kbt_split); (case q4 => kbt_split))); (case a1 => k_asm); (case a2 => k_asm); (case a3 => first | assumption | rfl); (case a4 => first | assumption | exact Nat.le_refl 0); (case a5 => first | assumption | exact Nat.le_refl 0); (case a6 => omega); (case a7 => first | assumption | decide); (case a8 => first | assumption | decide); (case a9 => first | assumption | decide); (case a10 => tlg_ne); (case a11 => omega); (case hd => ktr_room); (case hu => ktr_units)); intro r9 n9 h9 t9 p9 F9 N9; (obtain ⟨op9, oi9, kp9, ki9, hr9, hdp9, hdi9, hnp9, hlp9, hli9, hled9⟩ := p9); (subst hr9); (subst hled9); (try dsimp only)))
local macro_rules | `(tactic| walk_at "exec For Tuple Call cons nil") => `(tactic| (k_here; (rename Fr _ _ _ _ => lF'); (with_unfolding_all refine' For_turns lF' ?_; k_whole)))
local macro_rules | `(tactic| walk_at "exec For Name Name cons nil") => `(tactic| (k_here; (rename Fr _ _ _ _ => lF'); (with_unfolding_all refine' For_turns lF' ?_; k_whole)))
local macro_rules | `(tactic| walk_at "pyIter ref") => `(tactic| (k_here; (with_reducible show wpAny _ _ (pyIter (Value.ref _)) (fun it s₂ => TurnsAt _ _ _ _ _ _ _ _ _ it s₂) _ _); (rename Fr _ _ _ _ => lF'); (rename News _ _ _ _ => lN'); (with_unfolding_all refine iter_tup2 (by rfl) lF' lN' (by k_mem) ?_); clear lF' lN'; intro i' l1; (try k_lt l1)))
/-- a made OperatorTable -/
def OpsMade (w : World) (x dx bt bn bf bg : Nat) (h1 h2 h3 h4 : Int) (k1 k2 k3 k4 : Tok) (nd : Nat) (rest : Led) (r : Value) (led : Led) : Prop :=
  ∃ (y dy bp bi bq : Nat) (g1 g2 g3 g4 : Int) (j1 j2 j3 j4 : Tok) (gd' : Nat) (op oq : Obj) (kp : List (Int × Value)) (T : List Str) (vs : List Value) (nt : Nat) (on : Obj) (kvs : List (Str × Value)), r = .ref y ∧ StrsAre vs T ∧ on.IsDictOf (PySem.strKind P0 w) kvs ∧ FlatPairs PyData.str kvs (kdpD (tabOf T)) ∧ TOk T ∧ T.length ≤ 170 ∧
    op.IsDictOf (PySem.intKind P0 w) kp ∧ valueAt kp 26 = none ∧ oq.IsDictOf (PySem.intKind P0 w) [] ∧ (bp == sysModules) = false ∧ (bq == sysModules) = false ∧ (x < dy ∧ dx < dy ∧ bt < dy ∧ bn < dy ∧ AllLt dy rest ∧ dy < y ∧ y < bp ∧ bp < bi ∧ bi < bq) ∧
    led = (y, instObj 287 dy) :: (dy, opsDict g1 g2 g3 g4 j1 j2 j3 j4 x bp bi bq gd') :: (bp, op) :: (bq, oq) :: (x, instObj 122 dx) :: (dx, symDict h1 h2 h3 h4 k1 k2 k3 k4 bt bn bf bg nd) :: (bt, listOf vs.toArray nt) :: (bn, on) :: rest
set_option maxHeartbeats 8000000 in
theorem ops_spec {w : World} {mean : ExcName → Option Value} {mg mb : Str → Option Value} {x dx bt bn bf bg : Nat} {h1 h2 h3 h4 : Int} {k1 k2 k3 k4 : Tok} {nd nt : Nat} {vs : List Value} {T : List Str} {on : Obj} {kvs : List (Str × Value)} {rest : Led}
    (hs : StrsAre vs T) (hdn : on.IsDictOf (PySem.strKind P0 w) kvs) (hfp : FlatPairs PyData.str kvs (kdpD (tabOf T))) (hlo : (bn == sysModules) = false) (hT : TOk T) (hlen : T.length ≤ 40)
    (ho : OwnOff rest [x, dx, bt, bn]) (hne : x ≠ dx ∧ x ≠ bt ∧ x ≠ bn ∧ dx ≠ bt ∧ dx ≠ bn ∧ bt ≠ bn) :
    Does 12 w mean mg mb 287 [.ref x] ((x, instObj 122 dx) :: (dx, symDict h1 h2 h3 h4 k1 k2 k3 k4 bt bn bf bg nd) :: (bt, listOf vs.toArray nt) :: (bn, on) :: rest)
      (OpsMade w x dx bt bn bf bg h1 h2 h3 h4 k1 k2 k3 k4 nd rest) := by
  unfold Does
  intro dp un gd cn cs fa ccd cl outer A₀ base h₀ L m s Q E B F X N Tp hk hd hu hret
  k_dflt (refine' call_cls ?k1 ?k2 ?k3 ?k4 ?k5 ?k6 ?_; (case k1 => k_asm); (case k2 => k_asm); (case k3 => k_asm); (case k4 => k_is); (case k5 => k_is); (case k6 => k_is); k_whole; intro x' d' h' F' N' l1 l2; (try k_lt l1); (try k_lt2 l2); (try k_sweep); fold_lay)
  have hx1 : AllLt d' rest := by first | krn_off | fail
  have hx2 : AllLt x' rest := AllLt.up hx1 l2
  k_steps
  rename_i bp _ op0 lop _ _ _ _ q1 _ bi _ oi0 loi _ _ _ _ q2 _ bq _ oq loq _ _ hiq _ q3 _ _ _ _ _ _ op9 oi9 kp9 ki9 hdp9 hdi9 hnp9 hlp9 hli9 _ _ _ a9 vs9 rl9 hR9 hlen9 hAb9 I2 hl2
  obtain ⟨rr, hrr⟩ : ∃ rr : Led, rr = (a9, tupO vs9) :: (rl9 ++ rest) := ⟨_, rfl⟩
  have hoff2 : OwnOff rr [x', d', bp, bi, bq, x, dx, bt, bn] := by
    subst hrr
    refine off_append (l := (a9, tupO vs9) :: rl9) (above_off hAb9 ?_) (by first | tlg_ne | fail)
    intro b hb
    simp only [List.mem_cons, List.not_mem_nil, or_false] at hb
    rcases hb with rfl | rfl | rfl | rfl | rfl | rfl | rfl | rfl | rfl
    all_goals exact ⟨_, by first | k_mem | fail⟩
  have hI2 : ∀ p ∈ rr, p.1 ≠ I2 := by
    subst hrr
    have h5 := allLt_ne hl2.2
    intro p hp
    rcases List.mem_cons.mp hp with rfl | hp
    · exact Nat.ne_of_lt hl2.1
    · rcases List.mem_append.mp hp with hp | hp
      · exact h5 p (List.mem_append_left _ hp)
      · exact h5 p (List.mem_append_right _ (by (repeat first | exact hp | apply List.Mem.tail)))
  have hnine : @LT.lt Nat _ x' I2 ∧ @LT.lt Nat _ d' I2 ∧ @LT.lt Nat _ bp I2 ∧ @LT.lt Nat _ bi I2 ∧ @LT.lt Nat _ bq I2 ∧ @LT.lt Nat _ x I2 ∧ @LT.lt Nat _ dx I2 ∧ @LT.lt Nat _ bt I2 ∧ @LT.lt Nat _ bn I2 := by
    refine ⟨?_, ?_, ?_, ?_, ?_, ?_, ?_, ?_, ?_⟩
    all_goals exact allLt_mem hl2.2 (List.mem_append_right _ (by first | k_mem | fail))
  have hrest : ∀ p ∈ rest, p ∈ rr := by
    subst hrr
    exact fun p hp => .tail _ (List.mem_append_right _ hp)
  have hRr : RowsGood rr vs9 := by subst hrr; exact hR9.mono fun p hp => .tail _ (List.mem_append_left _ hp)
  have hlo2r : (a9, tupO vs9) ∈ rr := by subst hrr; exact .head _
  refine rest_go (J := fun r m nx => ∃ (n : Nat) (T : List Str) (vs : List Value) (nt : Nat) (on : Obj) (kvs : List (Str × Value)) (op oi : Obj) (kp ki : List (Int × Value)) (g1 g2 g3 g4 : Int) (j1 j2 j3 j4 : Tok) (gd' : Nat), m (Str.ofString "self") = some (.ref x') ∧ m (Str.ofString "symbols") = some (.ref x) ∧
      nx = (x', instObj 287 d') :: (d', opsDict g1 g2 g3 g4 j1 j2 j3 j4 x bp bi bq gd') :: (bp, op) :: (bi, oi) :: (bq, oq) :: (x, instObj 122 dx) :: (dx, symDict h1 h2 h3 h4 k1 k2 k3 k4 bt bn bf bg nd) :: (bt, listOf vs.toArray nt) :: (bn, on) :: rr ∧ StrsAre vs T ∧ on.IsDictOf (PySem.strKind P0 w) kvs ∧ FlatPairs PyData.str kvs (kdpD (tabOf T)) ∧ TOk T ∧ T.length ≤ n ∧
      op.IsDictOf (PySem.intKind P0 w) kp ∧ oi.IsDictOf (PySem.intKind P0 w) ki ∧ valueAt kp 26 = none ∧ kp.length ≤ n ∧ ki.length ≤ n ∧ n + 10 * r.length ≤ 170 ∧ RowsGood rr r) ?turn ?done ⟨_, (List.forall_mem_cons.mpr ⟨.tail _ (List.mem_append_right _ (by first | k_mem | fail)), (List.forall_mem_cons.mpr ⟨.tail _ (List.mem_append_right _ (by first | k_mem | fail)), (List.forall_mem_cons.mpr ⟨.tail _ (List.mem_append_right _ (by first | k_mem | fail)), (List.forall_mem_cons.mpr ⟨.tail _ (List.mem_append_right _ (by first | k_mem | fail)), (List.forall_mem_cons.mpr ⟨.tail _ (List.mem_append_right _ (by first | k_mem | fail)), (List.forall_mem_cons.mpr ⟨.tail _ (List.mem_append_right _ (by first | k_mem | fail)), (List.forall_mem_cons.mpr ⟨.tail _ (List.mem_append_right _ (by first | k_mem | fail)), (List.forall_mem_cons.mpr ⟨.tail _ (List.mem_append_right _ (by first | k_mem | fail)), (List.forall_mem_cons.mpr ⟨.tail _ (List.mem_append_right _ (by first | k_mem | fail)), (by first | (subst hrr; intro p hp; rcases List.mem_cons.mp hp with rfl | hp; (exact .head _); rcases List.mem_append.mp hp with hp | hp; (exact .tail _ (List.mem_append_left _ hp)); exact .tail _ (List.mem_append_right _ (.tail _ (.tail _ (.tail _ (.tail _ (.tail _ (.tail _ (.tail _ (.tail _ (.tail _ hp))))))))))) | fail)⟩)⟩)⟩)⟩)⟩)⟩)⟩)⟩)⟩), ⟨40, T, vs, nt, on, kvs, op9, oi9, kp9, ki9, _, _, _, _, _, _, _, _, _, rfl, rfl, rfl, hs, hdn, hfp, hT, hlen, hdp9, hdi9, hnp9, Nat.le_trans hlp9 (by omega), Nat.le_trans hli9 (by omega), by omega, hRr⟩, ne_of_all hnine.1 (ne_of_all hnine.2.1 (ne_of_all hnine.2.2.1 (ne_of_all hnine.2.2.2.1 (ne_of_all hnine.2.2.2.2.1 (ne_of_all hnine.2.2.2.2.2.1 (ne_of_all hnine.2.2.2.2.2.2.1 (ne_of_all hnine.2.2.2.2.2.2.2.1 (ne_of_all hnine.2.2.2.2.2.2.2.2 hI2))))))))⟩
  case turn =>
    intro v r m nx h tk it hJ hoffI hcls F N
    obtain ⟨n, T, vs, nt, on, kvs, op, oi, kp, ki, g1, g2, g3, g4, j1, j2, j3, j4, gd', hm1, hm2, hnx, hs, hdn, hfp, hT, hlen, hdp, hdi, hnp, hlp, hli, hbud, hRw⟩ := hJ
    cases hRw with
    | @cons ra nm p t ns tp tt _ us hm3 hm4 hus hgood hRw =>
      obtain ⟨gp0, gt, gns, glen⟩ := hgood
      rw [name_form hm1] at F
      rw [name_form hm2] at F
      dsimp only at F
      subst hnx
      have hlen' : us.length ≤ 10 := by rw [hus.length]; exact glen
      rw [List.length_cons] at hbud
      k_steps
      rename_i I3 l3
      obtain ⟨n1, n2, n3, n4, n5, n6, n7, n8, n9⟩ := hnine
      have hoff3 : OwnOff ((I2, it) :: rr) [x', d', bp, bi, bq, x, dx, bt, bn] := off_cons (by simp only [NeAll, and_true]; omega) hoff2
      have hI3 : ∀ p ∈ (I2, it) :: rr, p.1 ≠ I3 := by first | k_all | fail
      have hits : (nm, tupO us) ∈ (I2, it) :: rr := .tail _ hm4
      obtain ⟨rr3, hrr3⟩ : ∃ rr3 : Led, rr3 = (I2, it) :: rr := ⟨_, rfl⟩
      have hoff4 : OwnOff rr3 [x', d', bp, bi, bq, x, dx, bt, bn] := by subst hrr3; exact hoff3
      have hI4 : ∀ p ∈ rr3, p.1 ≠ I3 := by subst hrr3; exact hI3
      have hits4 : (nm, tupO us) ∈ rr3 := by subst hrr3; exact hits
      refine rest_go (J := fun us m nx => ∃ (n : Nat) (ns : List Str) (T : List Str) (vs : List Value) (nt : Nat) (on : Obj) (kvs : List (Str × Value)) (op oi : Obj) (kp ki : List (Int × Value)) (g1 g2 g3 g4 : Int) (j1 j2 j3 j4 : Tok) (gd' : Nat), m (Str.ofString "self") = some (.ref x') ∧ m (Str.ofString "symbols") = some (.ref x) ∧ m (Str.ofString "priority") = some (.int p tp) ∧ m (Str.ofString "type_text") = some (.str t tt) ∧
        nx = (x', instObj 287 d') :: (d', opsDict g1 g2 g3 g4 j1 j2 j3 j4 x bp bi bq gd') :: (bp, op) :: (bi, oi) :: (bq, oq) :: (x, instObj 122 dx) :: (dx, symDict h1 h2 h3 h4 k1 k2 k3 k4 bt bn bf bg nd) :: (bt, listOf vs.toArray nt) :: (bn, on) :: rr3 ∧ StrsAre vs T ∧ on.IsDictOf (PySem.strKind P0 w) kvs ∧ FlatPairs PyData.str kvs (kdpD (tabOf T)) ∧ TOk T ∧ T.length ≤ n ∧
        op.IsDictOf (PySem.intKind P0 w) kp ∧ oi.IsDictOf (PySem.intKind P0 w) ki ∧ valueAt kp 26 = none ∧ kp.length ≤ n ∧ ki.length ≤ n ∧ n + us.length + 10 * r.length ≤ 170 ∧ StrsAre us ns ∧ (∀ s ∈ ns, s ≠ Str.ofString "$VAR")) ?turn2 ?done2 ⟨(x', instObj 287 d') :: (d', opsDict g1 g2 g3 g4 j1 j2 j3 j4 x bp bi bq gd') :: (bp, op) :: (bi, oi) :: (bq, oq) :: (x, instObj 122 dx) :: (dx, symDict h1 h2 h3 h4 k1 k2 k3 k4 bt bn bf bg nd) :: (bt, listOf vs.toArray nt) :: (bn, on) :: rr3, by first | (subst hrr3; ksw_less) | fail, ⟨n, ns, T, vs, nt, on, kvs, op, oi, kp, ki, g1, g2, g3, g4, j1, j2, j3, j4, gd', rfl, rfl, rfl, rfl, rfl, hs, hdn, hfp, hT, hlen, hdp, hdi, hnp, hlp, hli, by omega, hus, gns⟩, by first | (subst hrr3; k_all) | fail⟩
      case turn2 =>
        intro v r2 m nx h tk it2 hJ hoffI hcls F N
        obtain ⟨n, ns, T, vs, nt, on, kvs, op, oi, kp, ki, g1, g2, g3, g4, j1, j2, j3, j4, gd', hm1, hm2, hm3', hm4', hnx, hs, hdn, hfp, hT, hlen, hdp, hdi, hnp, hlp, hli, hbud, hus, gns⟩ := hJ
        cases hus with
        | cons s1 ts hus =>
          rename_i ys
          have gn1 : s1 ≠ Str.ofString "$VAR" := gns _ (.head _)
          have gn2 : ∀ s ∈ ys, s ≠ Str.ofString "$VAR" := fun s hs => gns s (.tail _ hs)
          rw [name_form hm1] at F
          rw [name_form hm2] at F
          rw [name_form hm3'] at F
          rw [name_form hm4'] at F
          dsimp only at F
          subst hnx
          rw [List.length_cons] at hbud
          k_steps
          rename_i i9 tk9 T9 vs9 nt9 on9 kv9 _ _ _ hT9 hl9 hs9 hd9 hf9 _ _ _ F9 op9 oi9 kp9 ki9 hdp9 hdi9 hnp9 hlp9 hli9 N9
          refine turn_end ((x', instObj 287 d') :: (d', opsDict g1 g2 g3 g4 j1 j2 j3 j4 x bp bi bq gd') :: (bp, op9) :: (bi, oi9) :: (bq, oq) :: (x, instObj 122 dx) :: (dx, symDict h1 h2 h3 h4 k1 k2 k3 k4 bt bn bf bg nd) :: (bt, listOf vs9.toArray nt9) :: (bn, on9) :: rr3) F9 N9 ?_ ?_ ⟨⟨?_, trivial⟩, n + 1, ys, T9, vs9, nt9, on9, kv9, op9, oi9, kp9, ki9, g1, g2, g3, g4, j1, j2, j3, j4, gd', rfl, rfl, rfl, rfl, rfl, hs9, hd9, hf9, hT9, hl9, hdp9, hdi9, hnp9, hlp9, hli9, by omega, hus, gn2⟩
          · first | ksw_less | fail
          · first | k_all | fail
          · exact .tail _ (.tail _ (.tail _ (.tail _ (.tail _ (.tail _ (.tail _ (.tail _ (.tail _ hits4))))))))
      case done2 =>
        intro m nx h tk hJ F N
        obtain ⟨n, ns, T, vs, nt, on, kvs, op, oi, kp, ki, g1, g2, g3, g4, j1, j2, j3, j4, gd', hm1, hm2, hm3', hm4', hnx, hs, hdn, hfp, hT, hlen, hdp, hdi, hnp, hlp, hli, hbud, hus, gns⟩ := hJ
        rw [name_form hm1] at F
        rw [name_form hm2] at F
        dsimp only at F
        subst hnx
        k_steps
        refine turn_end ((x', instObj 287 d') :: (d', opsDict g1 g2 g3 g4 j1 j2 j3 j4 x bp bi bq gd') :: (bp, op) :: (bi, oi) :: (bq, oq) :: (x, instObj 122 dx) :: (dx, symDict h1 h2 h3 h4 k1 k2 k3 k4 bt bn bf bg nd) :: (bt, listOf vs.toArray nt) :: (bn, on) :: rr) F N ?_ ?_ ⟨⟨?_, trivial⟩, n, T, vs, nt, on, kvs, op, oi, kp, ki, g1, g2, g3, g4, j1, j2, j3, j4, gd', rfl, rfl, rfl, hs, hdn, hfp, hT, hlen, hdp, hdi, hnp, hlp, hli, by rw [List.length_nil] at hbud; omega, hRw⟩
        · subst hrr3
          first | ksw_less | fail
        · exact ne_of_all n1 (ne_of_all n2 (ne_of_all n3 (ne_of_all n4 (ne_of_all n5 (ne_of_all n6 (ne_of_all n7 (ne_of_all n8 (ne_of_all n9 hI2))))))))
        · exact .tail _ (.tail _ (.tail _ (.tail _ (.tail _ (.tail _ (.tail _ (.tail _ (.tail _ hlo2r))))))))
  case done =>
    intro m nx h tk hJ F N
    obtain ⟨n, T, vs, nt, on, kvs, op, oi, kp, ki, g1, g2, g3, g4, j1, j2, j3, j4, gd', hm1, hm2, hnx, hs, hdn, hfp, hT, hlen, hdp, hdi, hnp, hlp, hli, hbud, hRw⟩ := hJ
    rw [name_form hm1] at F
    rw [name_form hm2] at F
    dsimp only at F
    subst hnx
    k_steps
    rename_i kF kN _ _
    have f1 : @LT.lt Nat _ d' x' := l2
    rw [List.length_nil] at hbud
    refine hret (.ref x') ((x', instObj 287 d') :: (d', opsDict g1 g2 g3 g4 j1 j2 j3 j4 x bp bi bq gd') :: (bp, op) :: (bq, oq) :: (x, instObj 122 dx) :: (dx, symDict h1 h2 h3 h4 k1 k2 k3 k4 bt bn bf bg nd) :: (bt, listOf vs.toArray nt) :: (bn, on) :: rest) h tk ⟨x', d', bp, bi, bq, g1, g2, g3, g4, j1, j2, j3, j4, gd', op, oq, kp, T, vs, nt, on, kvs, rfl, hs, hdn, hfp, hT, by omega, hdp, hnp, hiq, lop, loq, ⟨by omega, by omega, by omega, by omega, hx1, f1, by omega, by omega, by omega⟩, rfl⟩ kF (cb_drop kN ?_)
    refine List.forall_mem_cons.mpr ⟨by first | k_mem | fail, List.forall_mem_cons.mpr ⟨by first | k_mem | fail, List.forall_mem_cons.mpr ⟨by first | k_mem | fail, List.forall_mem_cons.mpr ⟨by first | k_mem | fail, List.forall_mem_cons.mpr ⟨by first | k_mem | fail, List.forall_mem_cons.mpr ⟨by first | k_mem | fail, List.forall_mem_cons.mpr ⟨by first | k_mem | fail, List.forall_mem_cons.mpr ⟨by first | k_mem | fail, ?_⟩⟩⟩⟩⟩⟩⟩⟩
    exact fun p hp => .tail _ (.tail _ (.tail _ (.tail _ (.tail _ (.tail _ (.tail _ (.tail _ (.tail _ (hrest p hp)))))))))
end Mine
end
section
-- part D1
open PySem PySem.W PySem.Calls PyProof.Rows PyProof.V PySem.Spec
namespace Mine
local macro_rules | `(tactic| krn_off) => `(tactic| first | with_reducible assumption | exact allLt_of (by with_reducible assumption) | exact And.right (by with_reducible assumption) | exact And.right (And.right (by with_reducible assumption)) | exact And.right (And.right (And.right (by with_reducible assumption))) | exact And.right (And.right (And.right (And.right (by with_reducible assumption)))) | exact And.right (And.right (And.right (And.right (And.right (by with_reducible assumption))))) | exact And.right (And.right (And.right (And.right (And.right (And.right (by with_reducible assumption)))))) | exact And.right (And.right (And.right (And.right (And.right (And.right (And.right (by with_reducible assumption))))))) | exact And.right (And.right (And.right (And.right (And.right (And.right (And.right (And.right (by with_reducible assumption)))))))) | exact And.right (And.right (And.right (And.right (And.right (And.right (And.right (And.right (And.right (by with_reducible assumption))))))))) | exact And.right (And.right (And.right (And.right (And.right (And.right (And.right (And.right (And.right (And.right (by with_reducible assumption)))))))))) | exact And.right (And.right (And.right (And.right (And.right (And.right (And.right (And.right (And.right (And.right (And.right (by with_reducible assumption))))))))))) | exact And.right (And.right (And.right (And.right (And.right (And.right (And.right (And.right (And.right (And.right (And.right (And.right (by with_reducible assumption)))))))))))) | exact And.right (And.right (And.right (And.right (And.right (And.right (And.right (And.right (And.right (And.right (And.right (And.right (And.right (by with_reducible assumption))))))))))))) | exact And.right (And.right (And.right (And.right (And.right (And.right (And.right (And.right (And.right (And.right (And.right (And.right (And.right (And.right (by with_reducible assumption)))))))))))))) | exact And.right (And.right (And.right (And.right (And.right (And.right (And.right (And.right (And.right (And.right (And.right (And.right (And.right (And.right (And.right (by with_reducible assumption))))))))))))))) | exact And.right (And.right (And.right (And.right (And.right (And.right (And.right (And.right (And.right (And.right (And.right (And.right (And.right (And.right (And.right (And.right (by with_reducible assumption)))))))))))))))) | exact And.right (And.right (And.right (And.right (And.right (And.right (And.right (And.right (And.right (And.right (And.right (And.right (And.right (And.right (And.right (And.right (And.right (by with_reducible assumption))))))))))))))))) | exact And.right (And.right (And.right (And.right (And.right (And.right (And.right (And.right (And.right (And.right (And.right (And.right (And.right (And.right (And.right (And.right (And.right (And.right (by with_reducible assumption)))))))))))))))))) | exact And.right (And.right (And.right (And.right (And.right (And.right (And.right (And.right (And.right (And.right (And.right (And.right (And.right (And.right (And.right (And.right (And.right (And.right (And.right (by with_reducible assumption))))))))))))))))))) | exact And.right (And.right (And.right (And.right (And.right (And.right (And.right (And.right (And.right (And.right (And.right (And.right (And.right (And.right (And.right (And.right (And.right (And.right (And.right (And.right (by with_reducible assumption)))))))))))))))))))) | exact And.right (And.right (And.right (And.right (And.right (And.right (And.right (And.right (And.right (And.right (And.right (And.right (And.right (And.right (And.right (And.right (And.right (And.right (And.right (And.right (And.right (by with_reducible assumption))))))))))))))))))))) | exact And.right (And.right (And.right (And.right (And.right (And.right (And.right (And.right (And.right (And.right (And.right (And.right (And.right (And.right (And.right (And.right (And.right (And.right (And.right (And.right (And.right (And.right (by with_reducible assumption)))))))))))))))))))))) | exact And.right (And.right (And.right (And.right (And.right (And.right (And.right (And.right (And.right (And.right (And.right (And.right (And.right (And.right (And.right (And.right (And.right (And.right (And.right (And.right (And.right (And.right (And.right (by with_reducible assumption))))))))))))))))))))))) | exact And.right (And.right (And.right (And.right (And.right (And.right (And.right (And.right (And.right (And.right (And.right (And.right (And.right (And.right (And.right (And.right (And.right (And.right (And.right (And.right (And.right (And.right (And.right (And.right (by with_reducible assumption)))))))))))))))))))))))) | exact And.right (And.right (And.right (And.right (And.right (And.right (And.right (And.right (And.right (And.right (And.right (And.right (And.right (And.right (And.right (And.right (And.right (And.right (And.right (And.right (And.right (And.right (And.right (And.right (And.right (by with_reducible assumption))))))))))))))))))))))))) | fail "krn_off")
local macro_rules | `(tactic| k_all) => `(tactic| ((fail_if_success (refine List.forall_mem_cons.mpr ?_)); first | assumption | exact allLt_ne (by krn_off)))
local macro_rules | `(tactic| size_fits) => `(tactic| (simp only [List.size_toArray, PySem.sizeLine_eq]; omega))
local macro_rules | `(tactic| kbt_split) => `(tactic| first | exact Rm.head | (apply Rm.tail; kbt_split) | fail "kbt_split")
local macro_rules | `(tactic| tlg_ne) => `(tactic| first | exact off_nil | exact off_nil2 | (refine off_cons (by simp only [NeAll, and_true]; omega) ?_; tlg_ne) | exact off_sub (by assumption) (by first | (simp; done) | fail "tlg") | (refine off_lt (by krn_off) ?_; tlg_ne))
local macro_rules | `(tactic| fold_lay) => `(tactic| (refine' code_def ?k1 ?k2 ?k3 ?k4 ?k5 ?kA ?kF ?kK ?k6 ?k7 ?k8 ?k9 ?kB ?_ ?c2 ?c3 ?c4 ?c5; (case kA => exact rfl); (case kF => exact rfl); (case kK => first | exact rfl | assumption); (case k1 => k_asm); (case k2 => k_asm); (case k3 => k_asm); (case k4 => k_asm); (case k5 => k_asm); (case k6 => k_is); (case k7 => k_is); (case k8 => ktr_room); (case k9 => first | exact BindsTo.of_eq rfl | exact binds_K (by k_in) rfl (by k_is) rfl rfl rfl); (case c5 => decide); (case kB => exact locs rfl); (case c2 => exact rfl); (case c3 => exact rfl); (case c4 => exact rfl); k_whole; intro g' L' h' FG' F' N' B' X' T'; (try dsimp only); (try k_lift B'); (try k_fold)))
local macro_rules | `(tactic| walk_at "call ref") => `(tactic| (k_here; k_dflt (first
  | (refine' call_cls ?k1 ?k2 ?k3 ?k4 ?k5 ?k6 ?_; (case k1 => k_asm); (case k2 => k_asm); (case k3 => k_asm); (case k4 => k_is); (case k5 => k_is); (case k6 => k_is); k_whole; intro x' d' h' F' N' l1 l2; (try k_lt l1); (try k_lt2 l2); (try k_sweep); fold_lay)
  | (refine' call_meth ?k1 ?k2 ?_; (case k1 => k_asm); (case k2 => k_mem); k_whole; fold_lay)
  | (refine wpAny_call ?_; fold_lay))))
local macro_rules | `(tactic| ktr_units) => `(tactic| ((simp only [units_in1, units_deeper, Around.mark_units, units_make, units_ktr, cLine_is] at *); omega))
local macro_rules | `(tactic| ksw_less) => `(tactic| first | exact sub3 | with_reducible assumption | (refine sub1 (by k_mem) ?_; ksw_less) | (refine sub2 ?_; ksw_less))
local macro_rules | `(tactic| k_mem) => `(tactic| ((fail_if_success (apply List.Mem.tail)); assumption))

/-- the last char of a text, as a text -/
def lastOf (t : Str) : Str := Txt.item t ((t.length : Int) - 1)
section
local macro_rules | `(tactic| walk_at "call builtin:len") => `(tactic| (k_here; (with_reducible show wpAny _ _ (call (Value.builtin "len") [Value.str _ _]) _ _ _); (refine SBL.len (by omega) ?_)))
local macro_rules | `(tactic| walk_at "subscriptTail") => `(tactic| (k_here; (with_reducible show wpAny _ _ (subscriptTail _ _ (Value.str _ _) (Value.int _ _)) _ _ _); (refine KXi.item rfl (by omega) (by omega) (by omega) ?_); intro kxiE))
set_option maxHeartbeats 8000000 in
theorem raw_spec {w : World} {mean : ExcName → Option Value} {mg mb : Str → Option Value} {rest : Led} {x dx xs xo an at' lo lw : Nat} {nb : Bool} {h1 h2 h3 h4 h5 h6 h7 h8 h9 h10 h11 : Int} {k1 k2 k3 k4 k5 k6 k7 k8 k9 k10 k11 : Tok} {no : Nat} {la t : Str} {ta tt : Tok} {O : List Value}
    (hlen : O.length ≤ 10000) (ht : (t != Str.ofString "") = true) (hl1 : 1 ≤ t.length) (hl2 : t.length ≤ 1000) (ho : OwnOff rest [x, dx, lo]) (hne : x ≠ dx ∧ x ≠ lo ∧ dx ≠ lo) :
    Does 3 w mean mg mb 364 [.ref x, .str t tt] ((x, instObj 472 dx) :: (dx, dictOf [⟨h1, .str (Str.ofString "symbols") k1, .ref xs⟩, ⟨h2, .str (Str.ofString "operators") k2, .ref xo⟩, ⟨h3, .str (Str.ofString "quoted") k3, .bool true⟩, ⟨h4, .str (Str.ofString "ignore_ops") k4, .bool false⟩, ⟨h5, .str (Str.ofString "numbervars") k5, .bool nb⟩, ⟨h6, .str (Str.ofString "names") k6, .ref an⟩, ⟨h7, .str (Str.ofString "taken") k7, .ref at'⟩, ⟨h8, .str (Str.ofString "out") k8, .ref lo⟩, ⟨h9, .str (Str.ofString "last") k9, .str la ta⟩, ⟨h10, .str (Str.ofString "prefixed") k10, .bool false⟩, ⟨h11, .str (Str.ofString "work") k11, .ref lw⟩] 11) :: (lo, listOf O.toArray no) :: rest)
      (fun r led => ∃ ta' no', r = .none ∧ led = (x, instObj 472 dx) :: (dx, dictOf [⟨h1, .str (Str.ofString "symbols") k1, .ref xs⟩, ⟨h2, .str (Str.ofString "operators") k2, .ref xo⟩, ⟨h3, .str (Str.ofString "quoted") k3, .bool true⟩, ⟨h4, .str (Str.ofString "ignore_ops") k4, .bool false⟩, ⟨h5, .str (Str.ofString "numbervars") k5, .bool nb⟩, ⟨h6, .str (Str.ofString "names") k6, .ref an⟩, ⟨h7, .str (Str.ofString "taken") k7, .ref at'⟩, ⟨h8, .str (Str.ofString "out") k8, .ref lo⟩, ⟨h9, .str (Str.ofString "last") k9, .str (lastOf t) ta'⟩, ⟨h10, .str (Str.ofString "prefixed") k10, .bool false⟩, ⟨h11, .str (Str.ofString "work") k11, .ref lw⟩] 11) :: (lo, listOf (O ++ [Value.str t tt]).toArray no') :: rest) := by
  unfold Does
  intro dp un gd cn cs fa ccd cl outer A₀ base h₀ L m s Q E B F X N Tp hk hd hu hret
  refine wpAny_call ?_
  k_dflt cell_enter
  k_steps
  all_goals first | (rename (t != Str.ofString "") = false => hbad; rw [ht] at hbad; cases hbad) | skip
  rename_i kF kN _ _
  refine hret _ _ _ _ ⟨_, no + 1, rfl, rfl⟩ kF (by rw [List.push_toArray] at kN; exact kN)
end
theorem in_str_c {w : World} {A : Around} {E : Value → Shared → Prop} {s : Shared} {x y : Str} {t u : Tok} {Q : Value → Shared → Prop} (b : Bool) (hb : (!(Builtin.Str.occurrences x y 0 x.length 1).isEmpty) = b) (h : Q (.bool b) s) : wpAny (model P0 w) A (compareOp .In (.str y u) (.str x t)) Q E s :=
  P.in_str (by rw [hb]; exact h)
local macro_rules | `(tactic| walk_at "compareOp In str str") => `(tactic| (k_here; first | refine in_str_c true (by decide +kernel) ?_ | refine in_str_c false (by decide +kernel) ?_))
def Lasts4 : List Str := [Str.ofString "", Str.ofString "[", Str.ofString ",", Str.ofString "("]
local macro_rules | `(tactic| walk_at "call ref") => `(tactic| (k_here; (with_unfolding_all show wpAny _ _ (call (Value.ref 364) [Value.ref _, Value.str _ _]) _ _ _); k_dflt (refine' does_use ?B ?F ?X ?N ?T ?hk (raw_spec ?a1 ?a2 ?a3 ?a4 ?a5 ?a6) ?pk ?hd ?hu ?_; (case B => k_asm); (case F => k_asm); (case X => k_asm); (case N => k_asm); (case T => k_asm); (case hk => first | exact rfl | assumption); (case pk => (refine' Pk.cons ?q1 (Pk.cons ?q2 (Pk.cons ?q3 Pk.nil)); (case q1 => kbt_split); (case q2 => kbt_split); (case q3 => kbt_split))); (case a1 => omega); (case a2 => first | assumption | decide); (case a3 => first | assumption | decide); (case a4 => first | assumption | decide); (case a5 => tlg_ne); (case a6 => omega); (case hd => ktr_room); (case hu => ktr_units)); intro r9 n9 h9 t9 p9 F9 N9; (obtain ⟨ta9, no9, hr9, hled9⟩ := p9); (subst hr9); (subst hled9); (try dsimp only)))
local macro_rules | `(tactic| walk_at "subscriptTail") => `(tactic| (k_here; (with_reducible show wpAny _ _ (subscriptTail _ _ (Value.str _ _) (Value.int _ _)) _ _ _); (refine KXi.item rfl (by omega) (by omega) (by omega) ?_); intro kxiE))
set_option maxHeartbeats 8000000 in
theorem token_spec {w : World} {mean : ExcName → Option Value} {mg mb : Str → Option Value} {rest : Led} {x dx xs xo an at' lo lw : Nat} {nb : Bool} {h1 h2 h3 h4 h5 h6 h7 h8 h9 h10 h11 : Int} {k1 k2 k3 k4 k5 k6 k7 k8 k9 k10 k11 : Tok} {no : Nat} {la t : Str} {ta tt : Tok} {O : List Value}
    (hla : la ∈ Lasts4) (hlen : O.length ≤ 10000) (ht : (t != Str.ofString "") = true) (hl1 : 1 ≤ t.length) (hl2 : t.length ≤ 1000) (ho : OwnOff rest [x, dx, lo]) (hne : x ≠ dx ∧ x ≠ lo ∧ dx ≠ lo) :
    Does 6 w mean mg mb 371 [.ref x, .str t tt] ((x, instObj 472 dx) :: (dx, dictOf [⟨h1, .str (Str.ofString "symbols") k1, .ref xs⟩, ⟨h2, .str (Str.ofString "operators") k2, .ref xo⟩, ⟨h3, .str (Str.ofString "quoted") k3, .bool true⟩, ⟨h4, .str (Str.ofString "ignore_ops") k4, .bool false⟩, ⟨h5, .str (Str.ofString "numbervars") k5, .bool nb⟩, ⟨h6, .str (Str.ofString "names") k6, .ref an⟩, ⟨h7, .str (Str.ofString "taken") k7, .ref at'⟩, ⟨h8, .str (Str.ofString "out") k8, .ref lo⟩, ⟨h9, .str (Str.ofString "last") k9, .str la ta⟩, ⟨h10, .str (Str.ofString "prefixed") k10, .bool false⟩, ⟨h11, .str (Str.ofString "work") k11, .ref lw⟩] 11) :: (lo, listOf O.toArray no) :: rest)
      (fun r led => ∃ ta' no', r = .none ∧ led = (x, instObj 472 dx) :: (dx, dictOf [⟨h1, .str (Str.ofString "symbols") k1, .ref xs⟩, ⟨h2, .str (Str.ofString "operators") k2, .ref xo⟩, ⟨h3, .str (Str.ofString "quoted") k3, .bool true⟩, ⟨h4, .str (Str.ofString "ignore_ops") k4, .bool false⟩, ⟨h5, .str (Str.ofString "numbervars") k5, .bool nb⟩, ⟨h6, .str (Str.ofString "names") k6, .ref an⟩, ⟨h7, .str (Str.ofString "taken") k7, .ref at'⟩, ⟨h8, .str (Str.ofString "out") k8, .ref lo⟩, ⟨h9, .str (Str.ofString "last") k9, .str (lastOf t) ta'⟩, ⟨h10, .str (Str.ofString "prefixed") k10, .bool false⟩, ⟨h11, .str (Str.ofString "work") k11, .ref lw⟩] 11) :: (lo, listOf (O ++ [Value.str t tt]).toArray no') :: rest) := by
  unfold Does
  intro dp un gd cn cs fa ccd cl outer A₀ base h₀ L m s Q E B F X N Tp hk hd hu hret
  unfold Lasts4 at hla
  simp only [List.mem_cons, List.not_mem_nil, or_false] at hla
  rcases hla with rfl | rfl | rfl | rfl
  all_goals refine wpAny_call ?_
  all_goals k_dflt cell_enter
  all_goals k_steps
  all_goals first | (rename (t != Str.ofString "") = false => hbad; rw [ht] at hbad; cases hbad) | skip
  all_goals (rename_i ta9 no9 _ kF kN _ _; exact hret _ _ _ _ ⟨ta9, no9, rfl, rfl⟩ kF kN)
end Mine
end
section
-- part D0
open PySem PySem.W PySem.Calls PyProof.Rows PyProof.V PySem.Spec
namespace Mine
theorem lri_no_len : typeLookup (.type "list_reverseiterator") "__len__" = pure none := by rw [typeLookup_type, builtinLookup_eq_fast]; kernel_rfl
theorem lri_hint : typeLookup (.type "list_reverseiterator") "__length_hint__" = pure (some (.builtin "list_reverseiterator.__length_hint__")) := by rw [typeLookup_type, builtinLookup_eq_fast]; kernel_rfl
section
variable {prog : Program} {w : World} {A : Around} {E : Value → Shared → Prop} {s : Shared} {I l : Addr} {vs : List Value}
/-- all that a reversed list's iterator has left to give, gathered -/
theorem collect_lri {Q : List Value → Shared → Prop} (hh : A.in1.handled = none) (hne : l ≠ I) (hit : s.heap.IsRevIter I l ((vs.length : Int) - 1)) (hl : s.heap.IsList l vs.toArray)
    (hQ : ∀ s', Moved [I] (fun a b => b = a) s s' → Q vs.reverse s') (hn : vs.length ≤ sizeLine) : wpAny (model prog w) A (collect (.ref I)) Q E s := by
  have hI : I < s.heap.objs.size := by obtain ⟨o, ho, _⟩ := hit; exact Heap.lt_size ho
  have hll : l < s.heap.objs.size := by obtain ⟨o, ho, _⟩ := hl; exact Heap.lt_size ho
  have hSI : s.heap.objs.size ≠ I := Nat.ne_of_gt hI
  have hSf : s.heap.objs.size ∉ [I, l] := by
    intro hm
    rcases List.mem_cons.mp hm with e | hm
    · exact hSI e
    · exact Nat.ne_of_gt hll (List.mem_singleton.mp hm)
  have W := (Walks.listRev (prog := prog) (w := w) (A := A.in1) hh I l hne vs.toArray).toS
  have hsz : vs.toArray.size = vs.length := List.size_toArray
  have hT : ∀ (u : Shared) (i : Nat), u.heap.IsRevIter I l ((vs.toArray.size : Int) - 1 - (i : Int)) → u.TypeIs (.ref I) "list_reverseiterator" := fun u i x => x.typeIs
  have hst : 0 ≤ vs.toArray.size ∧ s.heap.IsRevIter I l ((vs.toArray.size : Int) - 1 - ((0 : Nat) : Int)) ∧ s.heap.IsList l vs.toArray := ⟨Nat.zero_le _, by rw [hsz]; simpa using hit, hl⟩
  unfold collect
  refine wpAny_bind (wpAny_runValue (codeAny_builtin F.entry_proto_collect ?_))
  rw [Around.under_plainId F.plain_proto_collect _]
  show wpAny _ A.in1 (newList [] >>= fun z => again (.builtin "list.__iadd__" ⟨[z, .ref I], []⟩)) _ _ s
  refine wpAny_bind (wpAny_newObj_type ?_)
  refine wpAny_pure ⟨plainId_quiet F.plain_list_iadd _, codeAny_builtin F.entry_list_iadd ?_⟩
  rw [Around.under_plainId F.plain_list_iadd _]
  have hst₁ := W.frame 0 s (s.heap.push { cls := .type "list", data := .seq ([] : List Value).toArray }) s.toks hst (Nat.le_refl _) fun b _ o e => Heap.get?_push_of_some _ e
  have hS₁ : (s.heap.push { cls := .type "list", data := .seq ([] : List Value).toArray }).get? s.heap.objs.size = some { cls := .type "list", data := .seq ([] : List Value).toArray } := Heap.get?_push_size _ rfl
  have h1 : Builtin.List.listSameRef (.ref s.heap.objs.size) (.ref I) = false := by simp [Builtin.List.listSameRef, hSI]
  show wpAny _ A.in1 (Builtin.List.listExtendWith (.ref s.heap.objs.size) (.ref I) (.ref s.heap.objs.size)) _ _ _
  unfold Builtin.List.listExtendWith
  refine wpAny_bind (wpAny_typeOf (hT _ 0 hst₁.2.1) ?_)
  rw [if_neg (by rw [h1]; decide)]
  refine wpAny_bind (W.self 0 _ _ _ hst₁ ?_)
  refine wpAny_bind (wpAny_holding ?_)
  unfold Builtin.List.listLengthHint
  refine wpAny_bind (wpAny_specialOf (hT _ 0 hst₁.2.1) lri_no_len ?_)
  show wpAny _ A.in1 (specialOf (Value.ref I) (Str.ofString "__length_hint__") >>= _) _ _ _
  refine wpAny_bind (wpAny_specialOf (hT _ 0 hst₁.2.1) lri_hint ?_)
  generalize hid : ("list_reverseiterator.__length_hint__" : String) = id0
  (fail_if_success (clear hid id0))
  wp_delta
  rw [show splitId id0 = some ("list_reverseiterator", "__length_hint__") from by subst hid; decide +kernel]
  subst hid
  refine wpAny_bind (wpAny_isInstance (b := true) (hT _ 0 hst₁.2.1) (by rw [isSubtype_type]; kernel_rfl) ?_)
  refine wpAny_pure ?_
  rw [if_neg (by decide)]
  refine wpAny_pure ⟨plainId_quiet F.plain_extend_loop _, codeAny_extend_loopS W (by rw [hsz]; exact hn) _ hSf _ vs.toArray.size 0 _ _ _ rfl (Nat.zero_le _) hst₁ hS₁ (ItemsOf.nil _) fun s' acc' c' hm hS' hacc => ?_⟩
  show wpAny _ A (load s.heap.objs.size >>= _) _ _ s'
  refine wpAny_bind (wpAny_load hS' ?_)
  have hacc2 : acc'.toList = vs.reverse := by
    apply List.ext_getElem?
    intro j
    have hsa : acc'.size = vs.length := by rw [hacc.1, hsz]
    rcases Nat.lt_or_ge j acc'.size with hj | hj
    · have e1 : acc'[j]? = some acc'[j] := Array.getElem?_eq_getElem hj
      have e2 := hacc.2 j _ e1
      have e3 : vs.toArray[vs.toArray.size - 1 - j]? = vs[vs.length - 1 - j]? := by rw [hsz]; simp
      rw [Array.getElem?_toList, e1, ← e2, e3, List.getElem?_reverse (by omega)]
    · rw [Array.getElem?_toList, Array.getElem?_eq_none hj, List.getElem?_eq_none (by rw [List.length_reverse]; omega)]
  refine wpAny_pure ?_
  show Q acc'.toList s'
  rw [hacc2]
  exact hQ s' (Moved.drop_new (o := { cls := .type "list", data := .seq ([] : List Value).toArray }) (tk := s.toks) hm (Nat.le_refl _))
/-- a join over a reversed list -/
theorem join_lri {Q : Value → Shared → Prop} {x : Str} {t : Tok} {ys : List Str} (hh : A.in1.in1.handled = none) (hne : l ≠ I) (hit : s.heap.IsRevIter I l ((vs.length : Int) - 1)) (hl : s.heap.IsList l vs.toArray) (hy : StrsAre vs ys)
    (hok : JoinOk x ys.reverse = true) (hn : vs.length ≤ sizeLine)
    (hQ : ∀ s' k t', Moved [I] (fun a b => b = a) s s' → Q (.str (Txt.join x ys.reverse) t') { s' with toks := k }) :
    wpAny (model prog w) A (call (.builtin "str.join") [.str x t, .ref I]) Q E s := by
  refine wpAny_call (codeAny_call_builtin F.slot_str_join.plain F.entry_str_join (F.slot_str_join.check _ _ _ _ _ _ _ _ (typeIs_str _ _ _) (F.args_str_join_2 _ _) ?_))
  rw [join_tree_other]
  refine wpAny_bind (wpAny_typeOf hit.typeIs ?_)
  show wpAny _ A.in1 ((pyIter (.ref I)).tryCatch _ >>= fun it => collect it >>= fun items => joinTail x items) _ _ s
  refine wpAny_bind (wpAny_tryCatch (wpAny_pyIter_revIter hit ?_))
  refine wpAny_bind (collect_lri hh hne hit hl (fun s' hm => ?_) hn)
  obtain ⟨l, e1, e2⟩ := strsAre_values hy
  have e3 : vs.reverse = strValues l.reverse := by rw [e1]; simp [strValues]
  have e4 : l.reverse.map (·.1) = ys.reverse := by rw [List.map_reverse, e2]
  rw [e3]
  rw [← e4] at hok hQ
  generalize l.reverse = l' at hok hQ
  unfold JoinOk at hok
  rw [Bool.not_eq_true'] at hok
  have g : Gives (joinTail x (strValues l')) (joinMade x l') := by
    have g0 := gives_joinTail x l' hok
    cases l' with
    | nil => exact g0
    | cons p r => cases r with
      | nil => exact g0
      | cons q r' => exact g0
  exact g prog w A (wants Q E) s' (post_join l' ⟨joinFit_length hok, fun t' k => hQ s' k t' hm⟩)
/-- the same, told over a ledger -/
theorem join_lri_K {Q : Value → Shared → Prop} {h₀ : Heap} {L : Addr} {m : Str → Option Value} {news news' : Led} {x : Str} {t : Tok} {ys : List Str} {n : Nat} (hh : A.in1.in1.handled = none) (F : Fr h₀ L s.heap m) (N : News h₀ L s.heap news) (hR : Rm (I, revObj l ((vs.length : Int) - 1)) news news')
    (hl : (l, listOf vs.toArray n) ∈ news) (hoff : ∀ p ∈ news', p.1 ≠ I) (hne : l ≠ I) (hy : StrsAre vs ys) (hok : JoinOk x ys.reverse = true) (hn : vs.length ≤ 1000000)
    (hQ : ∀ h' k t', Fr h₀ L h' m → News h₀ L h' news' → Q (.str (Txt.join x ys.reverse) t') { s with heap := h', toks := k }) :
    wpAny (model prog w) A (call (.builtin "str.join") [.str x t, .ref I]) Q E s := by
  have hI := N _ (hR.mem _ (.head _))
  refine join_lri hh hne ⟨_, hI.1, rfl, rfl⟩ ⟨_, (N _ hl).1, rfl, n, rfl⟩ hy hok (by rw [sizeLine_eq]; omega) fun s' k t' hm => ?_
  obtain ⟨h', g', d', t'', o'⟩ := s'
  obtain ⟨m1, m2, m3, m4, _⟩ := hm
  have m2 : g' = s.gens := m2
  have m3 : d' = s.drawn := m3
  have m4 : o' = s.os := m4
  subst m2 m3 m4
  refine hQ h' k t' ⟨F.ns.at fun o e => m1 L o (fun h => hI.2.1 (List.mem_singleton.mp h).symm) e, fun b o e => m1 b o (fun h => ?_) (F.keep b o e), F.above⟩ fun p hp => ?_
  · have hb : b = I := List.mem_singleton.mp h
    rw [hb] at e
    rw [hI.2.2] at e
    cases e
  · have h3 := N p (hR.mem _ (.tail _ hp))
    exact ⟨m1 p.1 p.2 (fun h => hoff p hp (List.mem_singleton.mp h)) h3.1, h3.2.1, h3.2.2⟩
end
end Mine
end
section
-- part D2
open PySem PySem.W PySem.Calls PyProof.Rows PyProof.V PySem.Spec
namespace Mine
local macro_rules | `(tactic| krn_off) => `(tactic| first | with_reducible assumption | exact allLt_of (by with_reducible assumption) | exact And.right (by with_reducible assumption) | exact And.right (And.right (by with_reducible assumption)) | exact And.right (And.right (And.right (by with_reducible assumption))) | exact And.right (And.right (And.right (And.right (by with_reducible assumption)))) | exact And.right (And.right (And.right (And.right (And.right (by with_reducible assumption))))) | exact And.right (And.right (And.right (And.right (And.right (And.right (by with_reducible assumption)))))) | exact And.right (And.right (And.right (And.right (And.right (And.right (And.right (by with_reducible assumption))))))) | exact And.right (And.right (And.right (And.right (And.right (And.right (And.right (And.right (by with_reducible assumption)))))))) | exact And.right (And.right (And.right (And.right (And.right (And.right (And.right (And.right (And.right (by with_reducible assumption))))))))) | exact And.right (And.right (And.right (And.right (And.right (And.right (And.right (And.right (And.right (And.right (by with_reducible assumption)))))))))) | exact And.right (And.right (And.right (And.right (And.right (And.right (And.right (And.right (And.right (And.right (And.right (by with_reducible assumption))))))))))) | exact And.right (And.right (And.right (And.right (And.right (And.right (And.right (And.right (And.right (And.right (And.right (And.right (by with_reducible assumption)))))))))))) | exact And.right (And.right (And.right (And.right (And.right (And.right (And.right (And.right (And.right (And.right (And.right (And.right (And.right (by with_reducible assumption))))))))))))) | exact And.right (And.right (And.right (And.right (And.right (And.right (And.right (And.right (And.right (And.right (And.right (And.right (And.right (And.right (by with_reducible assumption)))))))))))))) | exact And.right (And.right (And.right (And.right (And.right (And.right (And.right (And.right (And.right (And.right (And.right (And.right (And.right (And.right (And.right (by with_reducible assumption))))))))))))))) | exact And.right (And.right (And.right (And.right (And.right (And.right (And.right (And.right (And.right (And.right (And.right (And.right (And.right (And.right (And.right (And.right (by with_reducible assumption)))))))))))))))) | exact And.right (And.right (And.right (And.right (And.right (And.right (And.right (And.right (And.right (And.right (And.right (And.right (And.right (And.right (And.right (And.right (And.right (by with_reducible assumption))))))))))))))))) | exact And.right (And.right (And.right (And.right (And.right (And.right (And.right (And.right (And.right (And.right (And.right (And.right (And.right (And.right (And.right (And.right (And.right (And.right (by with_reducible assumption)))))))))))))))))) | exact And.right (And.right (And.right (And.right (And.right (And.right (And.right (And.right (And.right (And.right (And.right (And.right (And.right (And.right (And.right (And.right (And.right (And.right (And.right (by with_reducible assumption))))))))))))))))))) | exact And.right (And.right (And.right (And.right (And.right (And.right (And.right (And.right (And.right (And.right (And.right (And.right (And.right (And.right (And.right (And.right (And.right (And.right (And.right (And.right (by with_reducible assumption)))))))))))))))))))) | exact And.right (And.right (And.right (And.right (And.right (And.right (And.right (And.right (And.right (And.right (And.right (And.right (And.right (And.right (And.right (And.right (And.right (And.right (And.right (And.right (And.right (by with_reducible assumption))))))))))))))))))))) | exact And.right (And.right (And.right (And.right (And.right (And.right (And.right (And.right (And.right (And.right (And.right (And.right (And.right (And.right (And.right (And.right (And.right (And.right (And.right (And.right (And.right (And.right (by with_reducible assumption)))))))))))))))))))))) | exact And.right (And.right (And.right (And.right (And.right (And.right (And.right (And.right (And.right (And.right (And.right (And.right (And.right (And.right (And.right (And.right (And.right (And.right (And.right (And.right (And.right (And.right (And.right (by with_reducible assumption))))))))))))))))))))))) | exact And.right (And.right (And.right (And.right (And.right (And.right (And.right (And.right (And.right (And.right (And.right (And.right (And.right (And.right (And.right (And.right (And.right (And.right (And.right (And.right (And.right (And.right (And.right (And.right (by with_reducible assumption)))))))))))))))))))))))) | exact And.right (And.right (And.right (And.right (And.right (And.right (And.right (And.right (And.right (And.right (And.right (And.right (And.right (And.right (And.right (And.right (And.right (And.right (And.right (And.right (And.right (And.right (And.right (And.right (And.right (by with_reducible assumption))))))))))))))))))))))))) | fail "krn_off")
local macro_rules | `(tactic| k_all) => `(tactic| ((fail_if_success (refine List.forall_mem_cons.mpr ?_)); first | assumption | exact allLt_ne (by krn_off)))
local macro_rules | `(tactic| size_fits) => `(tactic| (simp only [List.size_toArray, PySem.sizeLine_eq]; omega))
local macro_rules | `(tactic| kbt_split) => `(tactic| first | exact Rm.head | (apply Rm.tail; kbt_split) | fail "kbt_split")
local macro_rules | `(tactic| tlg_ne) => `(tactic| first | exact off_nil | exact off_nil2 | (refine off_cons (by simp only [NeAll, and_true]; omega) ?_; tlg_ne) | exact off_sub (by assumption) (by first | (simp; done) | fail "tlg") | (refine off_lt (by krn_off) ?_; tlg_ne))
local macro_rules | `(tactic| fold_lay) => `(tactic| (refine' code_def ?k1 ?k2 ?k3 ?k4 ?k5 ?kA ?kF ?kK ?k6 ?k7 ?k8 ?k9 ?kB ?_ ?c2 ?c3 ?c4 ?c5; (case kA => exact rfl); (case kF => exact rfl); (case kK => first | exact rfl | assumption); (case k1 => k_asm); (case k2 => k_asm); (case k3 => k_asm); (case k4 => k_asm); (case k5 => k_asm); (case k6 => k_is); (case k7 => k_is); (case k8 => ktr_room); (case k9 => first | exact BindsTo.of_eq rfl | exact binds_K (by k_in) rfl (by k_is) rfl rfl rfl); (case c5 => decide); (case kB => exact locs rfl); (case c2 => exact rfl); (case c3 => exact rfl); (case c4 => exact rfl); k_whole; intro g' L' h' FG' F' N' B' X' T'; (try dsimp only); (try k_lift B'); (try k_fold)))
local macro_rules | `(tactic| walk_at "call ref") => `(tactic| (k_here; k_dflt (first
  | (refine' call_cls ?k1 ?k2 ?k3 ?k4 ?k5 ?k6 ?_; (case k1 => k_asm); (case k2 => k_asm); (case k3 => k_asm); (case k4 => k_is); (case k5 => k_is); (case k6 => k_is); k_whole; intro x' d' h' F' N' l1 l2; (try k_lt l1); (try k_lt2 l2); (try k_sweep); fold_lay)
  | (refine' call_meth ?k1 ?k2 ?_; (case k1 => k_asm); (case k2 => k_mem); k_whole; fold_lay)
  | (refine wpAny_call ?_; fold_lay))))
local macro_rules | `(tactic| ktr_units) => `(tactic| ((simp only [units_in1, units_deeper, Around.mark_units, units_make, units_ktr, cLine_is] at *); omega))
local macro_rules | `(tactic| ksw_less) => `(tactic| first | exact sub3 | with_reducible assumption | (refine sub1 (by k_mem) ?_; ksw_less) | (refine sub2 ?_; ksw_less))
local macro_rules | `(tactic| k_mem) => `(tactic| ((fail_if_success (apply List.Mem.tail)); assumption))

/-- the decimal text of the numbers that occur -/
def numT (v : Int) : Str :=
  if v = 0 then Str.ofString "0" else if v = 1 then Str.ofString "1" else if v = 25 then Str.ofString "25" else if v = 26 then Str.ofString "26" else if v = 27 then Str.ofString "27" else if v = 700 then Str.ofString "700" else Str.ofString "-1"
def Nums : List Int := [0, 1, 25, 26, 27, 700, -1]
local macro_rules | `(tactic| walk_at "call builtin:str.join") => `(tactic| (k_here; (with_reducible show wpAny _ _ (call (Value.builtin "str.join") [Value.str _ _, Value.ref _]) _ _ _); k_dflt (refine join_lri_K (by rfl) (by k_asm) (by k_asm) (by kbt_split) (by k_mem) (by k_all) (by k_ne) (by (repeat constructor)) (by with_unfolding_all rfl) (by with_unfolding_all exact Nat.le_of_ble_eq_true rfl) ?_); intro h9 k9 t9 F9 N9))
set_option maxHeartbeats 8000000 in
theorem number_spec {w : World} {mean : ExcName → Option Value} {mg mb : Str → Option Value} {rest : Led} {v : Int} {tv : Tok} (hv : v ∈ Nums) :
    Does 3 w mean mg mb 175 [.int v tv] rest (fun r led => ∃ tk, r = .str (numT v) tk ∧ led = rest) := by
  unfold Does
  intro dp un gd cn cs fa ccd cl outer A₀ base h₀ L m s Q E B F X N Tp hk hd hu hret
  unfold Nums at hv
  simp only [List.mem_cons, List.not_mem_nil, or_false] at hv
  rcases hv with rfl | rfl | rfl | rfl | rfl | rfl | rfl
  all_goals refine wpAny_call ?_
  all_goals k_dflt cell_enter
  all_goals k_steps
  all_goals (rename_i t9 _ _ kF kN _ _; exact hret _ _ _ _ ⟨t9, congrArg (fun z => Value.str z t9) (by decide +kernel), rfl⟩ kF (cb_drop kN (by ksw_less)))
theorem str_eq {a b : Str} {t : Tok} (h : a = b) : Value.str a t = Value.str b t := by rw [h]
/-- the letter and the turns -/
def varT (v : Int) : Str := if v = 0 then Str.ofString "A" else if v = 25 then Str.ofString "Z" else if v = 26 then Str.ofString "A1" else if v = 27 then Str.ofString "B1" else Str.ofString "Y26"
local macro_rules | `(tactic| walk_at "call ref") => `(tactic| (k_here; (with_unfolding_all show wpAny _ _ (call (Value.ref 175) [Value.int _ _]) _ _ _); k_dflt (refine' does_use ?B ?F ?X ?N ?T ?hk (number_spec ?a1) ?pk ?hd ?hu ?_; (case B => k_asm); (case F => k_asm); (case X => k_asm); (case N => k_asm); (case T => k_asm); (case hk => first | exact rfl | assumption); (case pk => exact Pk.nil); (case a1 => first | assumption | decide +kernel); (case hd => ktr_room); (case hu => ktr_units)); intro r9 n9 h9 t9 p9 F9 N9; (obtain ⟨tk9, hr9, hled9⟩ := p9); (subst hr9); (subst hled9); (try dsimp only)))
set_option maxHeartbeats 8000000 in
theorem numbered_spec {w : World} {mean : ExcName → Option Value} {mg mb : Str → Option Value} {rest : Led} {v : Int} {tv : Tok} (hv : v ∈ [(0 : Int), 25, 26, 27, 700]) :
    Does 5 w mean mg mb 320 [.int v tv] rest (fun r led => ∃ tk, r = .str (varT v) tk ∧ led = rest) := by
  unfold Does
  intro dp un gd cn cs fa ccd cl outer A₀ base h₀ L m s Q E B F X N Tp hk hd hu hret
  simp only [List.mem_cons, List.not_mem_nil, or_false] at hv
  rcases hv with rfl | rfl | rfl | rfl | rfl
  all_goals refine wpAny_call ?_
  all_goals k_dflt cell_enter
  all_goals k_steps
  all_goals (rename_i kF kN _ _; exact hret _ _ _ _ ⟨_, str_eq (by decide +kernel), rfl⟩ kF kN)
end Mine
end
section
-- part D3
open PySem PySem.W PySem.Calls PyProof.Rows PyProof.V PySem.Spec
namespace Mine
local macro_rules | `(tactic| krn_off) => `(tactic| first | with_reducible assumption | exact allLt_of (by with_reducible assumption) | exact And.right (by with_reducible assumption) | exact And.right (And.right (by with_reducible assumption)) | exact And.right (And.right (And.right (by with_reducible assumption))) | exact And.right (And.right (And.right (And.right (by with_reducible assumption)))) | exact And.right (And.right (And.right (And.right (And.right (by with_reducible assumption))))) | exact And.right (And.right (And.right (And.right (And.right (And.right (by with_reducible assumption)))))) | exact And.right (And.right (And.right (And.right (And.right (And.right (And.right (by with_reducible assumption))))))) | exact And.right (And.right (And.right (And.right (And.right (And.right (And.right (And.right (by with_reducible assumption)))))))) | exact And.right (And.right (And.right (And.right (And.right (And.right (And.right (And.right (And.right (by with_reducible assumption))))))))) | exact And.right (And.right (And.right (And.right (And.right (And.right (And.right (And.right (And.right (And.right (by with_reducible assumption)))))))))) | exact And.right (And.right (And.right (And.right (And.right (And.right (And.right (And.right (And.right (And.right (And.right (by with_reducible assumption))))))))))) | exact And.right (And.right (And.right (And.right (And.right (And.right (And.right (And.right (And.right (And.right (And.right (And.right (by with_reducible assumption)))))))))))) | exact And.right (And.right (And.right (And.right (And.right (And.right (And.right (And.right (And.right (And.right (And.right (And.right (And.right (by with_reducible assumption))))))))))))) | exact And.right (And.right (And.right (And.right (And.right (And.right (And.right (And.right (And.right (And.right (And.right (And.right (And.right (And.right (by with_reducible assumption)))))))))))))) | exact And.right (And.right (And.right (And.right (And.right (And.right (And.right (And.right (And.right (And.right (And.right (And.right (And.right (And.right (And.right (by with_reducible assumption))))))))))))))) | exact And.right (And.right (And.right (And.right (And.right (And.right (And.right (And.right (And.right (And.right (And.right (And.right (And.right (And.right (And.right (And.right (by with_reducible assumption)))))))))))))))) | exact And.right (And.right (And.right (And.right (And.right (And.right (And.right (And.right (And.right (And.right (And.right (And.right (And.right (And.right (And.right (And.right (And.right (by with_reducible assumption))))))))))))))))) | exact And.right (And.right (And.right (And.right (And.right (And.right (And.right (And.right (And.right (And.right (And.right (And.right (And.right (And.right (And.right (And.right (And.right (And.right (by with_reducible assumption)))))))))))))))))) | exact And.right (And.right (And.right (And.right (And.right (And.right (And.right (And.right (And.right (And.right (And.right (And.right (And.right (And.right (And.right (And.right (And.right (And.right (And.right (by with_reducible assumption))))))))))))))))))) | exact And.right (And.right (And.right (And.right (And.right (And.right (And.right (And.right (And.right (And.right (And.right (And.right (And.right (And.right (And.right (And.right (And.right (And.right (And.right (And.right (by with_reducible assumption)))))))))))))))))))) | exact And.right (And.right (And.right (And.right (And.right (And.right (And.right (And.right (And.right (And.right (And.right (And.right (And.right (And.right (And.right (And.right (And.right (And.right (And.right (And.right (And.right (by with_reducible assumption))))))))))))))))))))) | exact And.right (And.right (And.right (And.right (And.right (And.right (And.right (And.right (And.right (And.right (And.right (And.right (And.right (And.right (And.right (And.right (And.right (And.right (And.right (And.right (And.right (And.right (by with_reducible assumption)))))))))))))))))))))) | exact And.right (And.right (And.right (And.right (And.right (And.right (And.right (And.right (And.right (And.right (And.right (And.right (And.right (And.right (And.right (And.right (And.right (And.right (And.right (And.right (And.right (And.right (And.right (by with_reducible assumption))))))))))))))))))))))) | exact And.right (And.right (And.right (And.right (And.right (And.right (And.right (And.right (And.right (And.right (And.right (And.right (And.right (And.right (And.right (And.right (And.right (And.right (And.right (And.right (And.right (And.right (And.right (And.right (by with_reducible assumption)))))))))))))))))))))))) | exact And.right (And.right (And.right (And.right (And.right (And.right (And.right (And.right (And.right (And.right (And.right (And.right (And.right (And.right (And.right (And.right (And.right (And.right (And.right (And.right (And.right (And.right (And.right (And.right (And.right (by with_reducible assumption))))))))))))))))))))))))) | fail "krn_off")
local macro_rules | `(tactic| k_all) => `(tactic| ((fail_if_success (refine List.forall_mem_cons.mpr ?_)); first | assumption | exact allLt_ne (by krn_off)))
local macro_rules | `(tactic| size_fits) => `(tactic| (simp only [List.size_toArray, PySem.sizeLine_eq]; omega))
local macro_rules | `(tactic| kbt_split) => `(tactic| first | exact Rm.head | (apply Rm.tail; kbt_split) | fail "kbt_split")
local macro_rules | `(tactic| tlg_ne) => `(tactic| first | exact off_nil | exact off_nil2 | (refine off_cons (by simp only [NeAll, and_true]; omega) ?_; tlg_ne) | exact off_sub (by assumption) (by first | (simp; done) | fail "tlg") | (refine off_lt (by krn_off) ?_; tlg_ne))
local macro_rules | `(tactic| fold_lay) => `(tactic| (refine' code_def ?k1 ?k2 ?k3 ?k4 ?k5 ?kA ?kF ?kK ?k6 ?k7 ?k8 ?k9 ?kB ?_ ?c2 ?c3 ?c4 ?c5; (case kA => exact rfl); (case kF => exact rfl); (case kK => first | exact rfl | assumption); (case k1 => k_asm); (case k2 => k_asm); (case k3 => k_asm); (case k4 => k_asm); (case k5 => k_asm); (case k6 => k_is); (case k7 => k_is); (case k8 => ktr_room); (case k9 => first | exact BindsTo.of_eq rfl | exact binds_K (by k_in) rfl (by k_is) rfl rfl rfl); (case c5 => decide); (case kB => exact locs rfl); (case c2 => exact rfl); (case c3 => exact rfl); (case c4 => exact rfl); k_whole; intro g' L' h' FG' F' N' B' X' T'; (try dsimp only); (try k_lift B'); (try k_fold)))
local macro_rules | `(tactic| walk_at "call ref") => `(tactic| (k_here; k_dflt (first
  | (refine' call_cls ?k1 ?k2 ?k3 ?k4 ?k5 ?k6 ?_; (case k1 => k_asm); (case k2 => k_asm); (case k3 => k_asm); (case k4 => k_is); (case k5 => k_is); (case k6 => k_is); k_whole; intro x' d' h' F' N' l1 l2; (try k_lt l1); (try k_lt2 l2); (try k_sweep); fold_lay)
  | (refine' call_meth ?k1 ?k2 ?_; (case k1 => k_asm); (case k2 => k_mem); k_whole; fold_lay)
  | (refine wpAny_call ?_; fold_lay))))
local macro_rules | `(tactic| ktr_units) => `(tactic| ((simp only [units_in1, units_deeper, Around.mark_units, units_make, units_ktr, cLine_is] at *); omega))
local macro_rules | `(tactic| ksw_less) => `(tactic| first | with_reducible exact sub3 | with_reducible assumption | (refine sub1 (by k_mem) ?_; ksw_less) | (refine sub2 ?_; ksw_less))
local macro_rules | `(tactic| k_mem) => `(tactic| ((fail_if_success (apply List.Mem.tail)); assumption))

def atomT (t : Str) : Str := if t = Str.ofString "k" then Str.ofString "k" else Str.ofString "'$VAR'"
theorem in_tup_c {w : World} {A : Around} {E : Value → Shared → Prop} {s : Shared} {t : Addr} {items : Array Value} {ys : List Str} {x : Str} {u : Tok} {Q : Value → Shared → Prop} (b : Bool)
    (ht : IsTup s.heap t items) (hi : StrsAre items.toList ys) (hb : ys.any (· == x) = b) (h : Q (.bool b) s) : wpAny (model P0 w) A (compareOp .In (.str x u) (.ref t)) Q E s :=
  in_tuple_strs ht hi (by rw [hb]; exact h)
local macro_rules | `(tactic| walk_at "compareOp In str ref") => `(tactic| (k_here; k_dflt (first | refine in_tup_c true (News.isTup (by k_asm) (by k_mem)) (by (repeat constructor)) (by decide) ?_ | refine in_tup_c false (News.isTup (by k_asm) (by k_mem)) (by (repeat constructor)) (by decide) ?_)))
local macro_rules | `(tactic| walk_at "compareOp In str str") => `(tactic| (k_here; first | refine in_str_c true (by decide +kernel) ?_ | refine in_str_c false (by decide +kernel) ?_))
local macro_rules | `(tactic| walk_at "subscriptTail") => `(tactic| (k_here; (with_reducible show wpAny _ _ (subscriptTail _ _ (Value.ref _) (Value.int _ _)) _ _ _); k_dflt (refine item_litK (News.isList (by k_asm) (by k_mem)) (by first | decide | assumption) (by first | decide | omega) (by assumption) ?_)))
theorem unr_end {h₀ : Heap} {L I : Addr} {it : Obj} {rest : (Str → Option Value) → Led → Prop} {s₁ : Shared} {h' : Heap} {tk : Nat} {m' : Str → Option Value} {all news' : Led} (F : Fr h₀ L h' m') (N : News h₀ L h' all) (hR : Rm (I, it) all news') (off : ∀ p ∈ news', p.1 ≠ I) (r : rest m' news') :
    UnrEnd h₀ L s₁ I it rest { s₁ with heap := h', toks := tk } := UnrEnd.intro F N news' (fun p hp => hR.mem p hp) off r
local macro_rules | `(tactic| walk_at "UnrEnd") => `(tactic| (refine' unr_end ?uF ?uN ?uR ?uO ?_; (case uF => k_asm); (case uN => k_asm); (case uR => kbt_split); (case uO => k_all)))
local macro_rules | `(tactic| walk_at "exec For Name Name cons nil") => `(tactic| (k_here; (rename Fr _ _ _ _ => lF'); (with_unfolding_all refine' For_invVF lF' ?k1 ?k2 ?_; (case k1 => exact rfl); (case k2 => exact rfl); k_whole)))
local macro_rules | `(tactic| walk_at "pyIter str") => `(tactic| ((with_reducible show wpAny _ _ (pyIter (Value.str _ _)) (fun it s₂ => LoopAtV _ _ _ _ _ _ _ _ _ it s₂) _ _); k_here; k_strUnr))
set_option maxHeartbeats 8000000 in
theorem atext_spec {w : World} {mean : ExcName → Option Value} {mg mb : Str → Option Value} {rest : Led} {x dx bt bn bf bg : Nat} {h1 h2 h3 h4 : Int} {k1 k2 k3 k4 : Tok} {nd nt : Nat} {vs : List Value} {T : List Str} {a : Int} {ta : Tok} {t : Str}
    (hs : StrsAre vs T) (ha0 : 0 ≤ a) (ha1 : a < 100000) (hT : T[a.toNat]? = some t) (ht : t = Str.ofString "k" ∨ t = Str.ofString "$VAR") :
    Does 7 w mean mg mb 313 [.ref x, .int a ta, .bool true] ((x, instObj 122 dx) :: (dx, symDict h1 h2 h3 h4 k1 k2 k3 k4 bt bn bf bg nd) :: (bt, listOf vs.toArray nt) :: rest)
      (fun r led => ∃ tk, r = .str (atomT t) tk ∧ led = (x, instObj 122 dx) :: (dx, symDict h1 h2 h3 h4 k1 k2 k3 k4 bt bn bf bg nd) :: (bt, listOf vs.toArray nt) :: rest) := by
  unfold Does
  intro dp un gd cn cs fa ccd cl outer A₀ base h₀ L m s Q E B F X N Tp hk hd hu hret
  obtain ⟨tq, hq⟩ := hs.get a.toNat t hT
  rcases ht with rfl | rfl
  all_goals refine wpAny_call ?_
  all_goals k_dflt fold_lay
  · k_steps
    rename_i kF kN _ _
    exact hret _ _ _ _ ⟨_, str_eq (by decide +kernel), rfl⟩ kF (cb_drop kN (by (iterate 3 (refine sub1 ?_ ?_; focus k_mem)); intro p hp; (repeat (first | exact hp | apply List.Mem.tail))))
  · k_steps
    rename_i kF kN _ _
    exact hret _ _ _ _ ⟨_, str_eq (by decide +kernel), rfl⟩ kF (cb_drop kN (by (iterate 3 (refine sub1 ?_ ?_; focus k_mem)); intro p hp; (repeat (first | exact hp | apply List.Mem.tail))))
end Mine
end
section
-- part E0
open PySem PySem.W PySem.Calls PyProof.Rows PyProof.V PySem.Spec
namespace Mine
theorem plain_contains_iter : plainId "proto.contains_iter" = true := by decide +kernel
theorem entry_contains_iter : entryFor table "proto.contains_iter" = some Builtin.«proto.contains_iter» := entryFor_of_fast (by kernel_rfl)
theorem values_no_contains : typeLookup (.type "dict_values") "__contains__" = pure none := by rw [typeLookup_type, builtinLookup_eq_fast]; kernel_rfl
section
variable {prog : Program} {w : World} {A : Around} {E : Value → Shared → Prop} {s : Shared} {I d v : Addr} {K : Type} [DecidableEq K] {knd : KeyKind prog w K}
theorem contains_iter_vals {kvs : List (K × Value)} {ys : List Str} {ep : Nat} (hh : A.in1.handled = none) (hne : d ≠ I) (hy : StrsAre (kvs.map (·.2)) ys) (x : Str) (t : Tok) :
    ∀ (k i : Nat) (s : Shared) (R : Result → Shared → Prop), kvs.length - i = k → i ≤ kvs.length → s.heap.IsValIter I d i kvs.length ep → s.heap.DictAt knd d kvs ep →
      (∀ h' tk, (∀ b o, b ∉ [I] → s.heap.get? b = some o → h'.get? b = some o) → R (.ok (.ret (.bool ((ys.drop i).any (· == x))))) { s with heap := h', toks := tk }) →
      codeAny (model prog w) A (.builtin "proto.contains_iter" ⟨[.ref I, .str x t], []⟩) R s := by
  have W := Walks.dictValues (prog := prog) (w := w) (knd := knd) (A := A.in1) hh I d hne kvs ep
  have hyl : ys.length = kvs.length := by rw [← hy.length]; simp
  intro k
  induction k with
  | zero =>
    intro i s R hk hi h1 h2 hR
    have hin : i = kvs.length := by omega
    subst hin
    refine codeAny_builtin entry_contains_iter ?_
    rw [Around.under_plainId plain_contains_iter _]
    show wpAny _ A.in1 (pyNext (.ref I) >>= _) _ _ s
    refine wpAny_bind (W.done s _ _ ⟨h1, h2⟩ fun h' tk hm => ?_)
    refine wpAny_bind (wpAny_rule ?_)
    refine wpAny_pure ?_
    have e := hR h' tk hm
    rw [List.drop_eq_nil_of_le (by omega)] at e
    exact e
  | succ k ih =>
    intro i s R hk hi h1 h2 hR
    have hlt : i < kvs.length := by omega
    refine codeAny_builtin entry_contains_iter ?_
    rw [Around.under_plainId plain_contains_iter _]
    show wpAny _ A.in1 (pyNext (.ref I) >>= _) _ _ s
    refine wpAny_bind (W.item i s _ _ hlt ⟨h1, h2⟩ fun v h' tk hP hst' hm => ?_)
    obtain ⟨kk, hkv⟩ := hP
    have hlt2 : i < ys.length := by omega
    obtain ⟨tq, hq⟩ := hy.get i ys[i] (List.getElem?_eq_getElem hlt2)
    have hv : v = .str ys[i] tq := by
      rw [List.getElem?_map, hkv] at hq
      simpa using hq
    subst hv
    show wpAny _ A.in1 (eqBool (.str ys[i] tq) (.str x t) >>= _) _ _ _
    refine wpAny_bind (eqBool_str ?_)
    have hdrop : ys.drop i = ys[i] :: ys.drop (i + 1) := List.drop_eq_getElem_cons hlt2
    cases hb : (ys[i] == x) with
    | true =>
      refine wpAny_bind (wpAny_rule ?_)
      refine wpAny_pure ?_
      have e := hR h' tk hm
      rw [hdrop, List.any_cons, hb] at e
      exact e
    | false =>
      refine wpAny_pure ⟨plainId_quiet plain_contains_iter _, ih (i + 1) _ _ (by omega) hlt hst'.1 hst'.2 fun h'' tk' hm' => ?_⟩
      have e := hR h'' tk' fun b o hb eo => hm' b o hb (hm b o hb eo)
      rw [hdrop, List.any_cons, hb] at e
      exact e
/-- x in d.values(), told over a ledger -/
theorem in_values {h₀ : Heap} {L : Addr} {m : Str → Option Value} {news : Led} {kvs : List (K × Value)} {ys : List Str} {o : Obj} {x : Str} {t : Tok} {Q : Value → Shared → Prop} (hh : A.in1.handled = none)
    (F : Fr h₀ L s.heap m) (N : News h₀ L s.heap news) (hv : (v, ({ cls := .type "dict_values", data := .fields #[.ref d] } : Obj)) ∈ news) (hd : (d, o) ∈ news) (ho : o.IsDictOf knd kvs) (hy : StrsAre (kvs.map (·.2)) ys)
    (hQ : ∀ h' tk, Fr h₀ L h' m → News h₀ L h' news → Q (.bool (ys.any (· == x))) { s with heap := h', toks := tk }) :
    wpAny (model prog w) A (compareOp .In (.str x t) (.ref v)) Q E s := by
  have hvv : s.heap.IsValuesView v d := ⟨_, (N _ hv).1, rfl, rfl⟩
  obtain ⟨es, ep, hc, hdat, hk0, hp, hn⟩ := ho
  have hat : s.heap.DictAt knd d kvs ep := ⟨o, es, (N _ hd).1, hc, hdat, hk0, hp, hn⟩
  have hne : d ≠ s.heap.objs.size := Nat.ne_of_lt hat.lt_size
  show wpAny _ _ (contains (.ref v) (.str x t) >>= _) Q E s
  refine wpAny_bind ?_
  unfold contains
  refine wpAny_holding ?_
  rw [stdlibNamesSay?_of_typeIs hvv.typeIs]
  refine wpAny_bind (wpAny_specialOf hvv.typeIs values_no_contains ?_)
  refine wpAny_bind (wpAny_callSpecialUnlessNone?_none (name := Str.ofString "__contains__") hvv.typeIs values_no_contains ?_)
  refine wpAny_bind (wpAny_rule ?_)
  refine wpAny_bind (wpAny_tryCatch (wpAny_pyIter_values hvv hat ?_))
  refine wpAny_bind (wpAny_runValue (contains_iter_vals (knd := knd) hh hne hy x t kvs.length 0 _ _ rfl (Nat.zero_le _) ⟨_, Heap.get?_push_size _ rfl, rfl, rfl⟩ (hat.push _) fun h' tk hm => ?_))
  refine wpAny_pure ?_
  refine wpAny_pure ?_
  have hk : ∀ b o, s.heap.get? b = some o → h'.get? b = some o := fun b o e =>
    hm b o (fun hb => absurd (Heap.lt_size e) (by rw [List.mem_singleton.mp hb]; exact Nat.lt_irrefl _)) (Heap.get?_push_of_some _ e)
  exact hQ h' tk ⟨F.ns.at fun o e => hk L o e, fun b o e => hk b o (F.keep b o e), F.above⟩ fun p hp => ⟨hk _ _ (N p hp).1, (N p hp).2⟩
end
/-- a while told over ledgers, by a measure -/
def WhlEnd (s₀ : Shared) (h₀ : Heap) (L : Addr) (R : (Str → Option Value) → Led → Prop) (s' : Shared) : Prop := ∃ h' tk' m' nx', s' = { s₀ with heap := h', toks := tk' } ∧ Fr h₀ L h' m' ∧ News h₀ L h' nx' ∧ R m' nx'
def WhlP (s₀ : Shared) (h₀ : Heap) (L : Addr) (R : (Str → Option Value) → Led → Prop) (Q : Flow → Shared → Prop) (f : Flow) (s : Shared) : Prop :=
  match f with
  | .next => WhlEnd s₀ h₀ L R s
  | .cont => WhlEnd s₀ h₀ L R s
  | .brk => Q .next s
  | .ret v => Q (.ret v) s
def WhlGo (prog : Program) (w : World) (A : Around) (E : Value → Shared → Prop) (env : Env) (test : PySem.Expr) (body orelse : List Stmt) (Q : Flow → Shared → Prop) (s : Shared) : Prop := WhlRest prog w A E env test body orelse Q 0 s
section
variable {prog : Program} {w : World} {A : Around} {E : Value → Shared → Prop} {s : Shared} {env : Env} {test : PySem.Expr} {body orelse : List Stmt} {Q : Flow → Shared → Prop} {h₀ : Heap}
theorem whl_go {pos : Pos} (h : WhlGo prog w A E env test body orelse Q s) : wpAny (model prog w) A (exec (.While test body orelse pos) env) Q E s := whl_start 0 h
theorem whl_rule (J : Nat → (Str → Option Value) → Led → Prop) (hE : PassesOwn (model prog w) A env E)
    (turn : ∀ n m nx h tk, J n m nx → Fr h₀ env.locals h m → News h₀ env.locals h nx →
      wpAny (model prog w) A (isTrue test env (eval test env)) (fun b s₂ => WhlIf b (wpAny (model prog w) A (execs body env) (WhlP s h₀ env.locals (fun m' nx' => ∃ n', n' < n ∧ J n' m' nx') Q) E s₂) (wpAny (model prog w) A (execs orelse env) Q E s₂)) E { s with heap := h, toks := tk }) :
    ∀ n m nx h tk, J n m nx → Fr h₀ env.locals h m → News h₀ env.locals h nx → WhlGo prog w A E env test body orelse Q { s with heap := h, toks := tk } := by
  intro n
  induction n using Nat.strongRecOn with
  | _ n ih =>
    intro m nx h tk hJ F N
    have pf : ∀ s', WhlEnd s h₀ env.locals (fun m' nx' => ∃ n', n' < n ∧ J n' m' nx') s' → WhlRest prog w A E env test body orelse Q 0 s' := by
      rintro s' ⟨h', tk', m', nx', rfl, F', N', n', hn, hJ'⟩
      exact ih n' hn m' nx' h' tk' hJ' F' N'
    refine whl_turn (k := 0) hE (wpAny_mono (turn n m nx h tk hJ F N) (fun b s₂ hb => ?_) fun _ _ x => x)
    unfold WhlIf at *
    split
    · rename_i e
      rw [if_pos e] at hb
      refine wpAny_mono hb (fun f s₃ p => ?_) fun _ _ x => x
      cases f with
      | next => exact pf _ p
      | cont => exact pf _ p
      | brk => exact p
      | ret v => exact p
    · rename_i e
      rw [if_neg e] at hb
      exact hb
theorem whl_use {m : Str → Option Value} {nx : Led} (J : Nat → (Str → Option Value) → Led → Prop) (F : Fr h₀ env.locals s.heap m) (N : News h₀ env.locals s.heap nx) (hE : PassesOwn (model prog w) A env E)
    (turn : ∀ n m nx h tk, J n m nx → Fr h₀ env.locals h m → News h₀ env.locals h nx →
      wpAny (model prog w) A (isTrue test env (eval test env)) (fun b s₂ => WhlIf b (wpAny (model prog w) A (execs body env) (WhlP s h₀ env.locals (fun m' nx' => ∃ n', n' < n ∧ J n' m' nx') Q) E s₂) (wpAny (model prog w) A (execs orelse env) Q E s₂)) E { s with heap := h, toks := tk })
    (st : ∃ n nx', (∀ p ∈ nx', p ∈ nx) ∧ J n m nx') : WhlGo prog w A E env test body orelse Q s := by
  obtain ⟨n, nx', hs, hJ⟩ := st
  exact whl_rule J hE turn n m nx' s.heap s.toks hJ F fun p hp => N p (hs p hp)
theorem whl_stop {L : Addr} {R : (Str → Option Value) → Led → Prop} {s₁ : Shared} {h' : Heap} {tk : Nat} {m' : Str → Option Value} {all : Led} (nx : Led) (F : Fr h₀ L h' m') (N : News h₀ L h' all) (sub : ∀ p ∈ nx, p ∈ all) (r : R m' nx) :
    WhlEnd s₁ h₀ L R { s₁ with heap := h', toks := tk } := ⟨h', tk, m', nx, rfl, F, fun p hp => N p (sub p hp), r⟩
end
end Mine
end
section
-- part E1
open PySem PySem.W PySem.Calls PyProof.Rows PyProof.V PySem.Spec
namespace Mine
local macro_rules | `(tactic| krn_off) => `(tactic| first | with_reducible assumption | exact allLt_of (by with_reducible assumption) | exact And.right (by with_reducible assumption) | exact And.right (And.right (by with_reducible assumption)) | exact And.right (And.right (And.right (by with_reducible assumption))) | exact And.right (And.right (And.right (And.right (by with_reducible assumption)))) | exact And.right (And.right (And.right (And.right (And.right (by with_reducible assumption))))) | exact And.right (And.right (And.right (And.right (And.right (And.right (by with_reducible assumption)))))) | exact And.right (And.right (And.right (And.right (And.right (And.right (And.right (by with_reducible assumption))))))) | exact And.right (And.right (And.right (And.right (And.right (And.right (And.right (And.right (by with_reducible assumption)))))))) | exact And.right (And.right (And.right (And.right (And.right (And.right (And.right (And.right (And.right (by with_reducible assumption))))))))) | exact And.right (And.right (And.right (And.right (And.right (And.right (And.right (And.right (And.right (And.right (by with_reducible assumption)))))))))) | exact And.right (And.right (And.right (And.right (And.right (And.right (And.right (And.right (And.right (And.right (And.right (by with_reducible assumption))))))))))) | exact And.right (And.right (And.right (And.right (And.right (And.right (And.right (And.right (And.right (And.right (And.right (And.right (by with_reducible assumption)))))))))))) | exact And.right (And.right (And.right (And.right (And.right (And.right (And.right (And.right (And.right (And.right (And.right (And.right (And.right (by with_reducible assumption))))))))))))) | exact And.right (And.right (And.right (And.right (And.right (And.right (And.right (And.right (And.right (And.right (And.right (And.right (And.right (And.right (by with_reducible assumption)))))))))))))) | exact And.right (And.right (And.right (And.right (And.right (And.right (And.right (And.right (And.right (And.right (And.right (And.right (And.right (And.right (And.right (by with_reducible assumption))))))))))))))) | exact And.right (And.right (And.right (And.right (And.right (And.right (And.right (And.right (And.right (And.right (And.right (And.right (And.right (And.right (And.right (And.right (by with_reducible assumption)))))))))))))))) | exact And.right (And.right (And.right (And.right (And.right (And.right (And.right (And.right (And.right (And.right (And.right (And.right (And.right (And.right (And.right (And.right (And.right (by with_reducible assumption))))))))))))))))) | exact And.right (And.right (And.right (And.right (And.right (And.right (And.right (And.right (And.right (And.right (And.right (And.right (And.right (And.right (And.right (And.right (And.right (And.right (by with_reducible assumption)))))))))))))))))) | exact And.right (And.right (And.right (And.right (And.right (And.right (And.right (And.right (And.right (And.right (And.right (And.right (And.right (And.right (And.right (And.right (And.right (And.right (And.right (by with_reducible assumption))))))))))))))))))) | exact And.right (And.right (And.right (And.right (And.right (And.right (And.right (And.right (And.right (And.right (And.right (And.right (And.right (And.right (And.right (And.right (And.right (And.right (And.right (And.right (by with_reducible assumption)))))))))))))))))))) | exact And.right (And.right (And.right (And.right (And.right (And.right (And.right (And.right (And.right (And.right (And.right (And.right (And.right (And.right (And.right (And.right (And.right (And.right (And.right (And.right (And.right (by with_reducible assumption))))))))))))))))))))) | exact And.right (And.right (And.right (And.right (And.right (And.right (And.right (And.right (And.right (And.right (And.right (And.right (And.right (And.right (And.right (And.right (And.right (And.right (And.right (And.right (And.right (And.right (by with_reducible assumption)))))))))))))))))))))) | exact And.right (And.right (And.right (And.right (And.right (And.right (And.right (And.right (And.right (And.right (And.right (And.right (And.right (And.right (And.right (And.right (And.right (And.right (And.right (And.right (And.right (And.right (And.right (by with_reducible assumption))))))))))))))))))))))) | exact And.right (And.right (And.right (And.right (And.right (And.right (And.right (And.right (And.right (And.right (And.right (And.right (And.right (And.right (And.right (And.right (And.right (And.right (And.right (And.right (And.right (And.right (And.right (And.right (by with_reducible assumption)))))))))))))))))))))))) | exact And.right (And.right (And.right (And.right (And.right (And.right (And.right (And.right (And.right (And.right (And.right (And.right (And.right (And.right (And.right (And.right (And.right (And.right (And.right (And.right (And.right (And.right (And.right (And.right (And.right (by with_reducible assumption))))))))))))))))))))))))) | fail "krn_off")
local macro_rules | `(tactic| k_all) => `(tactic| ((fail_if_success (refine List.forall_mem_cons.mpr ?_)); first | assumption | exact allLt_ne (by krn_off)))
local macro_rules | `(tactic| size_fits) => `(tactic| (simp only [List.size_toArray, PySem.sizeLine_eq]; omega))
local macro_rules | `(tactic| kbt_split) => `(tactic| first | exact Rm.head | (apply Rm.tail; kbt_split) | fail "kbt_split")
local macro_rules | `(tactic| tlg_ne) => `(tactic| first | exact off_nil | exact off_nil2 | (refine off_cons (by simp only [NeAll, and_true]; omega) ?_; tlg_ne) | exact off_sub (by assumption) (by first | (simp; done) | fail "tlg") | (refine off_lt (by krn_off) ?_; tlg_ne))
local macro_rules | `(tactic| fold_lay) => `(tactic| (refine' code_def ?k1 ?k2 ?k3 ?k4 ?k5 ?kA ?kF ?kK ?k6 ?k7 ?k8 ?k9 ?kB ?_ ?c2 ?c3 ?c4 ?c5; (case kA => exact rfl); (case kF => exact rfl); (case kK => first | exact rfl | assumption); (case k1 => k_asm); (case k2 => k_asm); (case k3 => k_asm); (case k4 => k_asm); (case k5 => k_asm); (case k6 => k_is); (case k7 => k_is); (case k8 => ktr_room); (case k9 => first | exact BindsTo.of_eq rfl | exact binds_K (by k_in) rfl (by k_is) rfl rfl rfl); (case c5 => decide); (case kB => exact locs rfl); (case c2 => exact rfl); (case c3 => exact rfl); (case c4 => exact rfl); k_whole; intro g' L' h' FG' F' N' B' X' T'; (try dsimp only); (try k_lift B'); (try k_fold)))
local macro_rules | `(tactic| walk_at "call ref") => `(tactic| (k_here; k_dflt (first
  | (refine' call_cls ?k1 ?k2 ?k3 ?k4 ?k5 ?k6 ?_; (case k1 => k_asm); (case k2 => k_asm); (case k3 => k_asm); (case k4 => k_is); (case k5 => k_is); (case k6 => k_is); k_whole; intro x' d' h' F' N' l1 l2; (try k_lt l1); (try k_lt2 l2); (try k_sweep); fold_lay)
  | (refine' call_meth ?k1 ?k2 ?_; (case k1 => k_asm); (case k2 => k_mem); k_whole; fold_lay)
  | (refine wpAny_call ?_; fold_lay))))
local macro_rules | `(tactic| ktr_units) => `(tactic| ((simp only [units_in1, units_deeper, Around.mark_units, units_make, units_ktr, cLine_is] at *); omega))
local macro_rules | `(tactic| ksw_less) => `(tactic| first | with_reducible exact sub3 | with_reducible assumption | (refine sub1 (by k_mem) ?_; ksw_less) | (refine sub2 ?_; ksw_less))
local macro_rules | `(tactic| k_mem) => `(tactic| ((fail_if_success (apply List.Mem.tail)); assumption))
theorem str_eqv {a b : Str} {t : Tok} (h : a = b) : Value.str a t = Value.str b t := by rw [h]
/-- a table of names -/
abbrev Tbl := List (Int × Str)
def Tables : List Tbl := [[], [(1, Str.ofString "_0")], [(0, Str.ofString "X"), (2, Str.ofString "_1")], [(1, Str.ofString "_0"), (2, Str.ofString "_0_")], [(3, Str.ofString "_0__"), (1, Str.ofString "_0"), (2, Str.ofString "_0_")]]
def tblD (c : Tbl) : List (PyData × PyData) := c.map fun p => (PyData.int p.1, PyData.str p.2)
def look (c : Tbl) (k : Int) : Option Str := (c.find? fun p => decide (p.1 = k)).map (·.2)
def vals (c : Tbl) : List Str := c.map (·.2)
def takD (ys : List Str) : List (PyData × PyData) := ys.map fun y => (PyData.str y, PyData.bool true)
theorem tblD_lookup (k : Int) : ∀ c : Tbl, PySem.Spec.lookup (PyData.int k) (tblD c) = (look c k).map PyData.str
  | [] => rfl
  | (i, v) :: c => by
    show (if PySem.Spec.same (PyData.int i) (PyData.int k) = true then some (PyData.str v) else PySem.Spec.lookup (PyData.int k) (tblD c)) = _
    rw [PyProof.V.same_int, tblD_lookup k c]
    unfold look
    rw [List.find?_cons]
    by_cases h : i = k
    · simp [h]
    · simp [h]
theorem takD_some (t : Str) : ∀ ys : List Str, (PySem.Spec.lookup (PyData.str t) (takD ys)).isSome = ys.any (· == t)
  | [] => rfl
  | y :: ys => by
    show (if PySem.Spec.same (PyData.str y) (PyData.str t) = true then some (PyData.bool true) else PySem.Spec.lookup (PyData.str t) (takD ys)).isSome = (y == t || ys.any (· == t))
    rw [PyProof.V.same_str]
    by_cases h : y = t
    · simp [h]
    · rw [if_neg (by simp [h]), takD_some t ys]
      have h2 : (y == t) = false := by simp [h]
      rw [h2, Bool.false_or]
/-- the text with as many marks as it needs -/
def grow (ys : List Str) : Nat → Str → Str
  | 0, t => t
  | n + 1, t => if ys.any (· == t) = true then grow ys n (t ++ Str.ofString "_") else t
def uk (k : Int) : Str := Str.ofString "_" ++ Str.ofString (toString k)
def nameT (c : Tbl) (k : Int) : Str := match look c k with | some t => t | none => grow (vals c) 4 (uk k)
def Short (ys : List Str) : Prop := ∀ y ∈ ys, y.length ≤ 4
theorem short_any {ys : List Str} {t : Str} (h : Short ys) (ht : 5 ≤ t.length) : ys.any (· == t) = false := by
  rw [List.any_eq_false]
  intro y hy e
  have e' : y = t := by simpa using e
  have := h y hy
  rw [e'] at this
  omega
theorem tables_short {c : Tbl} (h : c ∈ Tables) : Short (vals c) := by
  unfold Tables at h
  simp only [List.mem_cons, List.not_mem_nil, or_false] at h
  unfold Short
  rcases h with rfl | rfl | rfl | rfl | rfl <;> decide +kernel
theorem uk_len {k : Int} (h0 : 0 ≤ k) (h1 : k < 4) : (uk k).length = 2 := by
  have : k = 0 ∨ k = 1 ∨ k = 2 ∨ k = 3 := by omega
  rcases this with rfl | rfl | rfl | rfl <;> decide +kernel
theorem grow_stop {ys : List Str} {t : Str} (h : ys.any (· == t) = false) : ∀ n, grow ys n t = t
  | 0 => rfl
  | n + 1 => by rw [grow, if_neg (by rw [h]; exact Bool.false_ne_true)]
theorem grow_step {ys : List Str} {t : Str} {n : Nat} (hs : Short ys) (h : ys.any (· == t) = true) (hl : 5 ≤ t.length + n) : 0 < n ∧ grow ys n t = grow ys (n - 1) (t ++ Str.ofString "_") := by
  cases n with
  | zero => exact absurd (short_any hs (by omega)) (by rw [h]; exact fun x => Bool.false_ne_true x.symm)
  | succ n => exact ⟨by omega, by rw [grow, if_pos h]; rfl⟩
section
variable {prog : Program} {w : World} {A : Around} {E : Value → Shared → Prop} {s : Shared} {d : Addr} {h₀ : Heap} {L : Addr} {news : Led}
theorem in_tbl {c : Tbl} {k : Int} {tk : Tok} {Q : Value → Shared → Prop} (T : TabAt (PySem.intKind prog w) PyData.int s.heap d (tblD c))
    (h1 : ∀ t, look c k = some t → Q (.bool true) { s with toks := s.toks + 1 }) (h2 : look c k = none → Q (.bool false) { s with toks := s.toks + 1 }) :
    wpAny (model prog w) A (compareOp .In (.int k tk) (.ref d)) Q E s := by
  refine in_intTab T ?_
  rw [tblD_lookup]
  cases h : look c k with
  | none => exact h2 h
  | some t => exact h1 t h
theorem item_tbl {c : Tbl} {k : Int} {tk : Tok} {t : Str} {value slice : PySem.Expr} {Q : Value → Shared → Prop} (T : TabAt (PySem.intKind prog w) PyData.int s.heap d (tblD c)) (hl : look c k = some t)
    (h : ∀ u, Q (.str t u) { s with toks := s.toks + 1 })
    (hs : subscripted slice false (.ref d) (.int k tk) = operate [.ref d, .int k tk] (getItem (.ref d) (.int k tk)) := by with_unfolding_all rfl) (hg : ∀ r, letTemporaryGo value (.ref d) r = pure () := by intro _; with_unfolding_all rfl) :
    wpAny (model prog w) A (subscriptTail value slice (.ref d) (.int k tk)) Q E s :=
  item_intTab T (by rw [tblD_lookup, hl]; rfl) (fun v hv => by
    obtain ⟨u, rfl⟩ := PyProof.V.Flat.str_inv hv
    exact h u) hs hg
theorem get_tbl {c : Tbl} {k : Int} {tk : Tok} {t : Str} {Q : Value → Shared → Prop} (T : TabAt (PySem.intKind prog w) PyData.int s.heap d (tblD c)) (hl : look c k = some t)
    (h : ∀ u, Q (.str t u) { s with toks := s.toks + 1 }) : wpAny (model prog w) A (getItem (.ref d) (.int k tk)) Q E s :=
  getItem_tab PyProof.V.same_int (intKind_is _ _ _ _) T (by rw [tblD_lookup, hl]; rfl) fun v hv => by
    obtain ⟨u, rfl⟩ := PyProof.V.Flat.str_inv hv
    exact h u
theorem in_tak {ys : List Str} {t : Str} {tk : Tok} {Q : Value → Shared → Prop} (T : TabAt (PySem.strKind prog w) PyData.str s.heap d (takD ys))
    (h1 : ys.any (· == t) = true → Q (.bool true) { s with toks := s.toks + 1 }) (h2 : ys.any (· == t) = false → Q (.bool false) { s with toks := s.toks + 1 }) :
    wpAny (model prog w) A (compareOp .In (.str t tk) (.ref d)) Q E s := by
  refine in_strTab T ?_
  rw [takD_some]
  cases h : ys.any (· == t) with
  | true => exact h1 h
  | false => exact h2 h
theorem str_small {k : Int} {tk : Tok} {Q : Value → Shared → Prop} (h0 : 0 ≤ k) (h1 : k < 4) (h : ∀ t k', Q (.str (Str.ofString (toString k)) t) { s with toks := k' }) : wpAny (model prog w) A (call (.type "str") [.int k tk]) Q E s := by
  refine P.str_of_int ?_ (h _ _)
  have : k = 0 ∨ k = 1 ∨ k = 2 ∨ k = 3 := by omega
  rcases this with rfl | rfl | rfl | rfl <;> decide +kernel
theorem len_small {k : Int} (h0 : 0 ≤ k) (h1 : k < 4) : (Str.ofString (toString k)).length = 1 := by
  have : k = 0 ∨ k = 1 ∨ k = 2 ∨ k = 3 := by omega
  rcases this with rfl | rfl | rfl | rfl <;> decide +kernel
end
end Mine
end
section
-- part E2
open PySem PySem.W PySem.Calls PyProof.Rows PyProof.V PySem.Spec
namespace Mine
local macro_rules | `(tactic| krn_off) => `(tactic| first | with_reducible assumption | exact allLt_of (by with_reducible assumption) | exact And.right (by with_reducible assumption) | exact And.right (And.right (by with_reducible assumption)) | exact And.right (And.right (And.right (by with_reducible assumption))) | exact And.right (And.right (And.right (And.right (by with_reducible assumption)))) | exact And.right (And.right (And.right (And.right (And.right (by with_reducible assumption))))) | exact And.right (And.right (And.right (And.right (And.right (And.right (by with_reducible assumption)))))) | exact And.right (And.right (And.right (And.right (And.right (And.right (And.right (by with_reducible assumption))))))) | exact And.right (And.right (And.right (And.right (And.right (And.right (And.right (And.right (by with_reducible assumption)))))))) | exact And.right (And.right (And.right (And.right (And.right (And.right (And.right (And.right (And.right (by with_reducible assumption))))))))) | exact And.right (And.right (And.right (And.right (And.right (And.right (And.right (And.right (And.right (And.right (by with_reducible assumption)))))))))) | exact And.right (And.right (And.right (And.right (And.right (And.right (And.right (And.right (And.right (And.right (And.right (by with_reducible assumption))))))))))) | exact And.right (And.right (And.right (And.right (And.right (And.right (And.right (And.right (And.right (And.right (And.right (And.right (by with_reducible assumption)))))))))))) | exact And.right (And.right (And.right (And.right (And.right (And.right (And.right (And.right (And.right (And.right (And.right (And.right (And.right (by with_reducible assumption))))))))))))) | exact And.right (And.right (And.right (And.right (And.right (And.right (And.right (And.right (And.right (And.right (And.right (And.right (And.right (And.right (by with_reducible assumption)))))))))))))) | exact And.right (And.right (And.right (And.right (And.right (And.right (And.right (And.right (And.right (And.right (And.right (And.right (And.right (And.right (And.right (by with_reducible assumption))))))))))))))) | exact And.right (And.right (And.right (And.right (And.right (And.right (And.right (And.right (And.right (And.right (And.right (And.right (And.right (And.right (And.right (And.right (by with_reducible assumption)))))))))))))))) | exact And.right (And.right (And.right (And.right (And.right (And.right (And.right (And.right (And.right (And.right (And.right (And.right (And.right (And.right (And.right (And.right (And.right (by with_reducible assumption))))))))))))))))) | exact And.right (And.right (And.right (And.right (And.right (And.right (And.right (And.right (And.right (And.right (And.right (And.right (And.right (And.right (And.right (And.right (And.right (And.right (by with_reducible assumption)))))))))))))))))) | exact And.right (And.right (And.right (And.right (And.right (And.right (And.right (And.right (And.right (And.right (And.right (And.right (And.right (And.right (And.right (And.right (And.right (And.right (And.right (by with_reducible assumption))))))))))))))))))) | exact And.right (And.right (And.right (And.right (And.right (And.right (And.right (And.right (And.right (And.right (And.right (And.right (And.right (And.right (And.right (And.right (And.right (And.right (And.right (And.right (by with_reducible assumption)))))))))))))))))))) | exact And.right (And.right (And.right (And.right (And.right (And.right (And.right (And.right (And.right (And.right (And.right (And.right (And.right (And.right (And.right (And.right (And.right (And.right (And.right (And.right (And.right (by with_reducible assumption))))))))))))))))))))) | exact And.right (And.right (And.right (And.right (And.right (And.right (And.right (And.right (And.right (And.right (And.right (And.right (And.right (And.right (And.right (And.right (And.right (And.right (And.right (And.right (And.right (And.right (by with_reducible assumption)))))))))))))))))))))) | exact And.right (And.right (And.right (And.right (And.right (And.right (And.right (And.right (And.right (And.right (And.right (And.right (And.right (And.right (And.right (And.right (And.right (And.right (And.right (And.right (And.right (And.right (And.right (by with_reducible assumption))))))))))))))))))))))) | exact And.right (And.right (And.right (And.right (And.right (And.right (And.right (And.right (And.right (And.right (And.right (And.right (And.right (And.right (And.right (And.right (And.right (And.right (And.right (And.right (And.right (And.right (And.right (And.right (by with_reducible assumption)))))))))))))))))))))))) | exact And.right (And.right (And.right (And.right (And.right (And.right (And.right (And.right (And.right (And.right (And.right (And.right (And.right (And.right (And.right (And.right (And.right (And.right (And.right (And.right (And.right (And.right (And.right (And.right (And.right (by with_reducible assumption))))))))))))))))))))))))) | fail "krn_off")
local macro_rules | `(tactic| k_all) => `(tactic| ((fail_if_success (refine List.forall_mem_cons.mpr ?_)); first | assumption | exact allLt_ne (by krn_off)))
local macro_rules | `(tactic| size_fits) => `(tactic| (simp only [List.size_toArray, PySem.sizeLine_eq]; omega))
local macro_rules | `(tactic| kbt_split) => `(tactic| first | exact Rm.head | (apply Rm.tail; kbt_split) | fail "kbt_split")
local macro_rules | `(tactic| tlg_ne) => `(tactic| first | exact off_nil | exact off_nil2 | (refine off_cons (by simp only [NeAll, and_true]; omega) ?_; tlg_ne) | exact off_sub (by assumption) (by first | (simp; done) | fail "tlg") | (refine off_lt (by krn_off) ?_; tlg_ne))
local macro_rules | `(tactic| fold_lay) => `(tactic| (refine' code_def ?k1 ?k2 ?k3 ?k4 ?k5 ?kA ?kF ?kK ?k6 ?k7 ?k8 ?k9 ?kB ?_ ?c2 ?c3 ?c4 ?c5; (case kA => exact rfl); (case kF => exact rfl); (case kK => first | exact rfl | assumption); (case k1 => k_asm); (case k2 => k_asm); (case k3 => k_asm); (case k4 => k_asm); (case k5 => k_asm); (case k6 => k_is); (case k7 => k_is); (case k8 => ktr_room); (case k9 => first | exact BindsTo.of_eq rfl | exact binds_K (by k_in) rfl (by k_is) rfl rfl rfl); (case c5 => decide); (case kB => exact locs rfl); (case c2 => exact rfl); (case c3 => exact rfl); (case c4 => exact rfl); k_whole; intro g' L' h' FG' F' N' B' X' T'; (try dsimp only); (try k_lift B'); (try k_fold)))
local macro_rules | `(tactic| walk_at "call ref") => `(tactic| (k_here; k_dflt (first
  | (refine' call_cls ?k1 ?k2 ?k3 ?k4 ?k5 ?k6 ?_; (case k1 => k_asm); (case k2 => k_asm); (case k3 => k_asm); (case k4 => k_is); (case k5 => k_is); (case k6 => k_is); k_whole; intro x' d' h' F' N' l1 l2; (try k_lt l1); (try k_lt2 l2); (try k_sweep); fold_lay)
  | (refine' call_meth ?k1 ?k2 ?_; (case k1 => k_asm); (case k2 => k_mem); k_whole; fold_lay)
  | (refine wpAny_call ?_; fold_lay))))
local macro_rules | `(tactic| ktr_units) => `(tactic| ((simp only [units_in1, units_deeper, Around.mark_units, units_make, units_ktr, cLine_is] at *); omega))
local macro_rules | `(tactic| ksw_less) => `(tactic| first | with_reducible exact sub3 | with_reducible assumption | (refine sub1 (by k_mem) ?_; ksw_less) | (refine sub2 ?_; ksw_less))
local macro_rules | `(tactic| k_mem) => `(tactic| ((fail_if_success (apply List.Mem.tail)); assumption))
local macro_rules | `(tactic| walk_at "compareOp In int ref") => `(tactic| (k_here; k_dflt (refine in_tbl (TabAt.ofNews (by k_asm) (by k_mem) (by k_asm) (by k_asm) (by k_asm)) (fun t9 l9 => ?_) (fun l9 => ?_))))
local macro_rules | `(tactic| walk_at "compareOp In str ref") => `(tactic| (k_here; k_dflt (refine in_tak (TabAt.ofNews (by k_asm) (by k_mem) (by k_asm) (by k_asm) (by k_asm)) (fun l9 => ?_) (fun l9 => ?_))))
local macro_rules | `(tactic| walk_at "subscriptTail") => `(tactic| (k_here; (with_reducible show wpAny _ _ (subscriptTail _ _ (Value.ref _) (Value.int _ _)) _ _ _); k_dflt (refine item_tbl (TabAt.ofNews (by k_asm) (by k_mem) (by k_asm) (by k_asm) (by k_asm)) (by assumption) ?_); intro u9))
local macro_rules | `(tactic| walk_at "getItem ref int") => `(tactic| (k_here; k_dflt (refine get_tbl (TabAt.ofNews (by k_asm) (by k_mem) (by k_asm) (by k_asm) (by k_asm)) (by assumption) ?_); intro u9))
local macro_rules | `(tactic| walk_at "call type:str") => `(tactic| (k_here; (with_reducible show wpAny _ _ (call (Value.type "str") [Value.int _ _]) _ _ _); (refine str_small (by assumption) (by assumption) ?_); intro t9 k9))
local macro_rules | `(tactic| walk_at "exec While") => `(tactic| (k_here; refine whl_go ?_))
local macro_rules | `(tactic| walk_at "exec While Compare") => `(tactic| (k_here; refine whl_go ?_))
local macro_rules | `(tactic| walk_at "exec While Compare cons nil") => `(tactic| (k_here; refine whl_go ?_))
local macro_rules | `(tactic| walk_at "WhlP") => `(tactic| (dsimp only [WhlP]))
set_option maxHeartbeats 4000000 in
theorem var_spec {w : World} {mean : ExcName → Option Value} {mg mb : Str → Option Value} {rest : Led} {x dx xs xo an at' lo lw : Nat} {nb : Bool} {h1 h2 h3 h4 h5 h6 h7 h8 h9 h10 h11 : Int} {k1 k2 k3 k4 k5 k6 k7 k8 k9 k10 k11 : Tok} {la : Str} {ta : Tok} {c : Tbl} {on ot : Obj} {kn : List (Int × Value)} {kt : List (Str × Value)} {k : Int} {tk : Tok}
    (hs : Short (vals c)) (hdn : on.IsDictOf (PySem.intKind P0 w) kn) (hfn : FlatPairs PyData.int kn (tblD c)) (hln : (an == sysModules) = false) (hdt : ot.IsDictOf (PySem.strKind P0 w) kt) (hft : FlatPairs PyData.str kt (takD (vals c))) (hlt : (at' == sysModules) = false) (hk0 : 0 ≤ k) (hk3 : k < 4) :
    Does 3 w mean mg mb 399 [.ref x, .int k tk] ((x, instObj 472 dx) :: (dx, dictOf [⟨h1, .str (Str.ofString "symbols") k1, .ref xs⟩, ⟨h2, .str (Str.ofString "operators") k2, .ref xo⟩, ⟨h3, .str (Str.ofString "quoted") k3, .bool true⟩, ⟨h4, .str (Str.ofString "ignore_ops") k4, .bool false⟩, ⟨h5, .str (Str.ofString "numbervars") k5, .bool nb⟩, ⟨h6, .str (Str.ofString "names") k6, .ref an⟩, ⟨h7, .str (Str.ofString "taken") k7, .ref at'⟩, ⟨h8, .str (Str.ofString "out") k8, .ref lo⟩, ⟨h9, .str (Str.ofString "last") k9, .str la ta⟩, ⟨h10, .str (Str.ofString "prefixed") k10, .bool false⟩, ⟨h11, .str (Str.ofString "work") k11, .ref lw⟩] 11) :: (an, on) :: (at', ot) :: rest)
      (fun r led => ∃ tk', r = .str (nameT c k) tk' ∧ led = (x, instObj 472 dx) :: (dx, dictOf [⟨h1, .str (Str.ofString "symbols") k1, .ref xs⟩, ⟨h2, .str (Str.ofString "operators") k2, .ref xo⟩, ⟨h3, .str (Str.ofString "quoted") k3, .bool true⟩, ⟨h4, .str (Str.ofString "ignore_ops") k4, .bool false⟩, ⟨h5, .str (Str.ofString "numbervars") k5, .bool nb⟩, ⟨h6, .str (Str.ofString "names") k6, .ref an⟩, ⟨h7, .str (Str.ofString "taken") k7, .ref at'⟩, ⟨h8, .str (Str.ofString "out") k8, .ref lo⟩, ⟨h9, .str (Str.ofString "last") k9, .str la ta⟩, ⟨h10, .str (Str.ofString "prefixed") k10, .bool false⟩, ⟨h11, .str (Str.ofString "work") k11, .ref lw⟩] 11) :: (an, on) :: (at', ot) :: rest) := by
  unfold Does
  intro dp un gd cn cs fa ccd cl outer A₀ base h₀ L m s Q E B F X N Tp hk hd hu hret
  have hlen := len_small hk0 hk3
  refine wpAny_call ?_
  k_dflt cell_enter
  k_steps
  · rename_i t9 l9 u9 kF kN _ _
    exact hret _ _ _ _ ⟨u9, str_eqv (by unfold nameT; rw [l9]), rfl⟩ kF kN
  · rename look c k = none => hnone
    rename Fr _ _ _ _ => lF
    rename News _ _ _ _ => lN
    refine whl_use (J := fun n m nx => ∃ t tt, m (Str.ofString "self") = some (.ref x) ∧ m (Str.ofString "text") = some (.str t tt) ∧ 5 ≤ t.length + n ∧ grow (vals c) n t = nameT c k ∧ t.length ≤ 20 ∧ nx = (x, instObj 472 dx) :: (dx, dictOf [⟨h1, .str (Str.ofString "symbols") k1, .ref xs⟩, ⟨h2, .str (Str.ofString "operators") k2, .ref xo⟩, ⟨h3, .str (Str.ofString "quoted") k3, .bool true⟩, ⟨h4, .str (Str.ofString "ignore_ops") k4, .bool false⟩, ⟨h5, .str (Str.ofString "numbervars") k5, .bool nb⟩, ⟨h6, .str (Str.ofString "names") k6, .ref an⟩, ⟨h7, .str (Str.ofString "taken") k7, .ref at'⟩, ⟨h8, .str (Str.ofString "out") k8, .ref lo⟩, ⟨h9, .str (Str.ofString "last") k9, .str la ta⟩, ⟨h10, .str (Str.ofString "prefixed") k10, .bool false⟩, ⟨h11, .str (Str.ofString "work") k11, .ref lw⟩] 11) :: (an, on) :: (at', ot) :: rest) lF lN (by first | passes_own | with_unfolding_all passes_own) ?turn ⟨4, _, by first | ksw_less | fail, _, _, rfl, rfl, ?a, ?b, ?c, rfl⟩
    case a => rw [Str.length_append, hlen]; decide +kernel
    case b => unfold nameT; rw [hnone]; rfl
    case c => rw [Str.length_append, hlen]; decide +kernel
    case turn =>
      intro n m nx h tk hJ F N
      obtain ⟨t, tt, hm1, hm2, hg1, hg2, hg3, hnx⟩ := hJ
      rw [name_form hm1] at F
      rw [name_form hm2] at F
      dsimp only at F
      subst hnx
      k_steps
      · rename (vals c).any _ = true => hany
        rename Fr _ _ _ _ => lF
        rename News _ _ _ _ => lN
        obtain ⟨hn, hgs⟩ := grow_step hs hany hg1
        refine whl_stop _ lF lN (by first | ksw_less | fail) ⟨n - 1, by omega, _, _, rfl, rfl, ?_, hgs ▸ hg2, ?_, rfl⟩
        · rw [Str.length_append, show (Str.ofString "_").length = 1 from by decide +kernel]; omega
        · by_cases h5 : 5 ≤ t.length
          · rw [short_any hs h5] at hany; cases hany
          · rw [Str.length_append, show (Str.ofString "_").length = 1 from by decide +kernel]; omega
      · rename (vals c).any _ = false => hany
        rename_i kF kN _ _
        exact hret _ _ _ _ ⟨tt, str_eqv (by rw [← hg2, grow_stop hany]), rfl⟩ kF kN
end Mine
end
section
-- part E3
open PySem PySem.W PySem.Calls PyProof.Rows PyProof.V PySem.Spec
namespace Mine
local macro_rules | `(tactic| krn_off) => `(tactic| first | with_reducible assumption | exact allLt_of (by with_reducible assumption) | exact And.right (by with_reducible assumption) | exact And.right (And.right (by with_reducible assumption)) | exact And.right (And.right (And.right (by with_reducible assumption))) | exact And.right (And.right (And.right (And.right (by with_reducible assumption)))) | exact And.right (And.right (And.right (And.right (And.right (by with_reducible assumption))))) | exact And.right (And.right (And.right (And.right (And.right (And.right (by with_reducible assumption)))))) | exact And.right (And.right (And.right (And.right (And.right (And.right (And.right (by with_reducible assumption))))))) | exact And.right (And.right (And.right (And.right (And.right (And.right (And.right (And.right (by with_reducible assumption)))))))) | exact And.right (And.right (And.right (And.right (And.right (And.right (And.right (And.right (And.right (by with_reducible assumption))))))))) | exact And.right (And.right (And.right (And.right (And.right (And.right (And.right (And.right (And.right (And.right (by with_reducible assumption)))))))))) | exact And.right (And.right (And.right (And.right (And.right (And.right (And.right (And.right (And.right (And.right (And.right (by with_reducible assumption))))))))))) | exact And.right (And.right (And.right (And.right (And.right (And.right (And.right (And.right (And.right (And.right (And.right (And.right (by with_reducible assumption)))))))))))) | exact And.right (And.right (And.right (And.right (And.right (And.right (And.right (And.right (And.right (And.right (And.right (And.right (And.right (by with_reducible assumption))))))))))))) | exact And.right (And.right (And.right (And.right (And.right (And.right (And.right (And.right (And.right (And.right (And.right (And.right (And.right (And.right (by with_reducible assumption)))))))))))))) | exact And.right (And.right (And.right (And.right (And.right (And.right (And.right (And.right (And.right (And.right (And.right (And.right (And.right (And.right (And.right (by with_reducible assumption))))))))))))))) | exact And.right (And.right (And.right (And.right (And.right (And.right (And.right (And.right (And.right (And.right (And.right (And.right (And.right (And.right (And.right (And.right (by with_reducible assumption)))))))))))))))) | exact And.right (And.right (And.right (And.right (And.right (And.right (And.right (And.right (And.right (And.right (And.right (And.right (And.right (And.right (And.right (And.right (And.right (by with_reducible assumption))))))))))))))))) | exact And.right (And.right (And.right (And.right (And.right (And.right (And.right (And.right (And.right (And.right (And.right (And.right (And.right (And.right (And.right (And.right (And.right (And.right (by with_reducible assumption)))))))))))))))))) | exact And.right (And.right (And.right (And.right (And.right (And.right (And.right (And.right (And.right (And.right (And.right (And.right (And.right (And.right (And.right (And.right (And.right (And.right (And.right (by with_reducible assumption))))))))))))))))))) | exact And.right (And.right (And.right (And.right (And.right (And.right (And.right (And.right (And.right (And.right (And.right (And.right (And.right (And.right (And.right (And.right (And.right (And.right (And.right (And.right (by with_reducible assumption)))))))))))))))))))) | exact And.right (And.right (And.right (And.right (And.right (And.right (And.right (And.right (And.right (And.right (And.right (And.right (And.right (And.right (And.right (And.right (And.right (And.right (And.right (And.right (And.right (by with_reducible assumption))))))))))))))))))))) | exact And.right (And.right (And.right (And.right (And.right (And.right (And.right (And.right (And.right (And.right (And.right (And.right (And.right (And.right (And.right (And.right (And.right (And.right (And.right (And.right (And.right (And.right (by with_reducible assumption)))))))))))))))))))))) | exact And.right (And.right (And.right (And.right (And.right (And.right (And.right (And.right (And.right (And.right (And.right (And.right (And.right (And.right (And.right (And.right (And.right (And.right (And.right (And.right (And.right (And.right (And.right (by with_reducible assumption))))))))))))))))))))))) | exact And.right (And.right (And.right (And.right (And.right (And.right (And.right (And.right (And.right (And.right (And.right (And.right (And.right (And.right (And.right (And.right (And.right (And.right (And.right (And.right (And.right (And.right (And.right (And.right (by with_reducible assumption)))))))))))))))))))))))) | exact And.right (And.right (And.right (And.right (And.right (And.right (And.right (And.right (And.right (And.right (And.right (And.right (And.right (And.right (And.right (And.right (And.right (And.right (And.right (And.right (And.right (And.right (And.right (And.right (And.right (by with_reducible assumption))))))))))))))))))))))))) | fail "krn_off")
local macro_rules | `(tactic| k_all) => `(tactic| ((fail_if_success (refine List.forall_mem_cons.mpr ?_)); first | assumption | exact allLt_ne (by krn_off)))
local macro_rules | `(tactic| size_fits) => `(tactic| (simp only [List.size_toArray, PySem.sizeLine_eq]; omega))
local macro_rules | `(tactic| kbt_split) => `(tactic| first | exact Rm.head | (apply Rm.tail; kbt_split) | fail "kbt_split")
local macro_rules | `(tactic| tlg_ne) => `(tactic| first | exact off_nil | exact off_nil2 | (refine off_cons (by simp only [NeAll, and_true]; omega) ?_; tlg_ne) | exact off_sub (by assumption) (by first | (simp; done) | fail "tlg") | (refine off_lt (by krn_off) ?_; tlg_ne))
local macro_rules | `(tactic| fold_lay) => `(tactic| (refine' code_def ?k1 ?k2 ?k3 ?k4 ?k5 ?kA ?kF ?kK ?k6 ?k7 ?k8 ?k9 ?kB ?_ ?c2 ?c3 ?c4 ?c5; (case kA => exact rfl); (case kF => exact rfl); (case kK => first | exact rfl | assumption); (case k1 => k_asm); (case k2 => k_asm); (case k3 => k_asm); (case k4 => k_asm); (case k5 => k_asm); (case k6 => k_is); (case k7 => k_is); (case k8 => ktr_room); (case k9 => first | exact BindsTo.of_eq rfl | exact binds_K (by k_in) rfl (by k_is) rfl rfl rfl); (case c5 => decide); (case kB => exact locs rfl); (case c2 => exact rfl); (case c3 => exact rfl); (case c4 => exact rfl); k_whole; intro g' L' h' FG' F' N' B' X' T'; (try dsimp only); (try k_lift B'); (try k_fold)))
local macro_rules | `(tactic| walk_at "call ref") => `(tactic| (k_here; k_dflt (first
  | (refine' call_cls ?k1 ?k2 ?k3 ?k4 ?k5 ?k6 ?_; (case k1 => k_asm); (case k2 => k_asm); (case k3 => k_asm); (case k4 => k_is); (case k5 => k_is); (case k6 => k_is); k_whole; intro x' d' h' F' N' l1 l2; (try k_lt l1); (try k_lt2 l2); (try k_sweep); fold_lay)
  | (refine' call_meth ?k1 ?k2 ?_; (case k1 => k_asm); (case k2 => k_mem); k_whole; fold_lay)
  | (refine wpAny_call ?_; fold_lay))))
local macro_rules | `(tactic| ktr_units) => `(tactic| ((simp only [units_in1, units_deeper, Around.mark_units, units_make, units_ktr, cLine_is] at *); omega))
local macro_rules | `(tactic| ksw_less) => `(tactic| first | with_reducible exact sub3 | with_reducible assumption | (refine sub1 (by k_mem) ?_; ksw_less) | (refine sub2 ?_; ksw_less))
local macro_rules | `(tactic| k_mem) => `(tactic| ((fail_if_success (apply List.Mem.tail)); assumption))
/-- the terms that the law builds -/
inductive Term where
  | v (k : Int)
  | i (f : Int)
  | a (n : Int)
  | fn (arg : Term)
inductive TermIs (led : Led) : Value → Term → Prop
  | v {a : Addr} {k : Int} {t u : Tok} : (a, tupO [.str (Str.ofString "v") t, .int k u]) ∈ led → TermIs led (.ref a) (.v k)
  | i {a : Addr} {k : Int} {t u : Tok} : (a, tupO [.str (Str.ofString "i") t, .int k u]) ∈ led → TermIs led (.ref a) (.i k)
  | a {a : Addr} {k : Int} {t u : Tok} : (a, tupO [.str (Str.ofString "a") t, .int k u]) ∈ led → TermIs led (.ref a) (.a k)
  | fn {a b : Addr} {x : Value} {T : Term} {t u : Tok} : (a, tupO [.str (Str.ofString "s") t, .int 17 u, .ref b]) ∈ led → (b, tupO [x]) ∈ led → TermIs led x T → TermIs led (.ref a) (.fn T)
theorem TermIs.mono {led led' : Led} {v : Value} {T : Term} (h : TermIs led v T) (hs : ∀ p ∈ led, p ∈ led') : TermIs led' v T := by
  induction h with
  | v h => exact .v (hs _ h)
  | i h => exact .i (hs _ h)
  | a h => exact .a (hs _ h)
  | fn h1 h2 _ ih => exact .fn (hs _ h1) (hs _ h2) ih
inductive TermsAre (led : Led) : List Value → List Term → Prop
  | nil : TermsAre led [] []
  | cons {v : Value} {T : Term} {vs : List Value} {Ts : List Term} : TermIs led v T → TermsAre led vs Ts → TermsAre led (v :: vs) (T :: Ts)
theorem TermsAre.mono {led led' : Led} {vs : List Value} {Ts : List Term} (h : TermsAre led vs Ts) (hs : ∀ p ∈ led, p ∈ led') : TermsAre led' vs Ts := by
  induction h with
  | nil => exact .nil
  | cons h _ ih => exact .cons (h.mono hs) ih
theorem TermsAre.snoc {led : Led} {vs : List Value} {Ts : List Term} {v : Value} {T : Term} (h : TermsAre led vs Ts) (h2 : TermIs led v T) : TermsAre led (vs ++ [v]) (Ts ++ [T]) := by
  induction h with
  | nil => exact .cons h2 .nil
  | cons h _ ih => exact .cons h ih
theorem TermsAre.length {led : Led} {vs : List Value} {Ts : List Term} (h : TermsAre led vs Ts) : vs.length = Ts.length := by
  induction h with
  | nil => rfl
  | cons _ _ ih => simp [ih]
/-- the list term -/
inductive ChainIs (led : Led) : Value → List Term → Prop
  | nil {a : Addr} {t u : Tok} : (a, tupO [.str (Str.ofString "a") t, .int 0 u]) ∈ led → ChainIs led (.ref a) []
  | cons {a b : Addr} {x y : Value} {T : Term} {Ts : List Term} {t u : Tok} : (a, tupO [.str (Str.ofString "s") t, .int 0 u, .ref b]) ∈ led → (b, tupO [x, y]) ∈ led → TermIs led x T → ChainIs led y Ts → ChainIs led (.ref a) (T :: Ts)
theorem ChainIs.mono {led led' : Led} {v : Value} {Ts : List Term} (h : ChainIs led v Ts) (hs : ∀ p ∈ led, p ∈ led') : ChainIs led' v Ts := by
  induction h with
  | nil h => exact .nil (hs _ h)
  | cons h1 h2 h3 _ ih => exact .cons (hs _ h1) (hs _ h2) (h3.mono hs) ih
local macro_rules | `(tactic| walk_at "exec While") => `(tactic| (k_here; refine whl_go ?_))
local macro_rules | `(tactic| walk_at "exec While BoolOp") => `(tactic| (k_here; refine whl_go ?_))
local macro_rules | `(tactic| walk_at "exec While BoolOp cons cons nil") => `(tactic| (k_here; refine whl_go ?_))
local macro_rules | `(tactic| walk_at "WhlP") => `(tactic| (dsimp only [WhlP]))
set_option maxHeartbeats 4000000 in
theorem items_spec {w : World} {mean : ExcName → Option Value} {mg mb : Str → Option Value} {rest r0 : Led} {v : Addr} {Ts : List Term}
    (hc : ChainIs r0 (.ref v) Ts) (hsub : ∀ p ∈ r0, p ∈ rest) (hn : Ts.length ≤ 100) :
    Does 3 w mean mg mb 133 [.ref v] rest
      (fun r led => ∃ (a b c : Addr) (vs : List Value) (n : Nat) (t u : Tok), r = .ref a ∧ TermsAre r0 vs Ts ∧ (c, tupO [.str (Str.ofString "a") t, .int 0 u]) ∈ r0 ∧ (∀ p ∈ rest, p.1 < b) ∧ b < a ∧ led = (a, tupO [.ref b, .ref c]) :: (b, listOf vs.toArray n) :: rest) := by
  unfold Does
  intro dp un gd cn cs fa ccd cl outer A₀ base h₀ L m s Q E B F X N Tp hk hd hu hret
  refine wpAny_call ?_
  k_dflt cell_enter
  k_steps
  rename_i l _ hl1 _ lF lN
  have hl : AllLt l rest := allLt_of hl1
  refine whl_use (J := fun n m nx => ∃ a done todo vs cnt, m (Str.ofString "term") = some a ∧ m (Str.ofString "items") = some (.ref l) ∧ ChainIs r0 a todo ∧ TermsAre r0 vs done ∧ done ++ todo = Ts ∧ n = todo.length ∧ nx = (l, listOf vs.toArray cnt) :: rest) lF lN (by first | passes_own | with_unfolding_all passes_own) ?turn ⟨Ts.length, _, sub3, .ref v, [], Ts, [], _, rfl, rfl, hc, .nil, rfl, rfl, rfl⟩
  case turn =>
    intro n m nx h tk hJ F N
    obtain ⟨a, done, todo, vs, cnt, hm1, hm2, hch, htd, hdt, hnn, hnx⟩ := hJ
    rw [name_form hm1] at F
    rw [name_form hm2] at F
    dsimp only at F
    subst hnx
    cases hch with
    | nil hmem =>
      have hmem' := hsub _ hmem
      k_steps
      rename_i D _ _ _ l1 kF kN _ _
      rw [List.append_nil] at hdt
      subst hdt
      exact hret _ _ _ _ ⟨D, l, _, vs, cnt, _, _, rfl, htd, hmem, hl1, l1.1, rfl⟩ kF kN
    | cons hmem1 hmem2 hT hch =>
      have hmem1' := hsub _ hmem1
      have hmem2' := hsub _ hmem2
      have hlen : vs.length ≤ 100 := by rw [htd.length]; rw [← hdt, List.length_append] at hn; omega
      k_steps
      rename Fr _ _ _ _ => lF
      rename News _ _ _ _ => lN
      refine whl_stop _ lF lN sub3 ⟨_, ?lt, _, _, _, _, _, rfl, rfl, hch, htd.snoc hT, ?eq, rfl, rfl⟩
      case lt => rw [hnn]; exact Nat.lt_succ_self _
      case eq => rw [← hdt, List.append_assoc]; rfl
end Mine
end
section
-- part E4
open PySem PySem.W PySem.Calls PyProof.Rows PyProof.V PySem.Spec
namespace Mine
local macro_rules | `(tactic| krn_off) => `(tactic| first | with_reducible assumption | exact allLt_of (by with_reducible assumption) | exact And.right (by with_reducible assumption) | exact And.right (And.right (by with_reducible assumption)) | exact And.right (And.right (And.right (by with_reducible assumption))) | exact And.right (And.right (And.right (And.right (by with_reducible assumption)))) | exact And.right (And.right (And.right (And.right (And.right (by with_reducible assumption))))) | exact And.right (And.right (And.right (And.right (And.right (And.right (by with_reducible assumption)))))) | exact And.right (And.right (And.right (And.right (And.right (And.right (And.right (by with_reducible assumption))))))) | exact And.right (And.right (And.right (And.right (And.right (And.right (And.right (And.right (by with_reducible assumption)))))))) | exact And.right (And.right (And.right (And.right (And.right (And.right (And.right (And.right (And.right (by with_reducible assumption))))))))) | exact And.right (And.right (And.right (And.right (And.right (And.right (And.right (And.right (And.right (And.right (by with_reducible assumption)))))))))) | exact And.right (And.right (And.right (And.right (And.right (And.right (And.right (And.right (And.right (And.right (And.right (by with_reducible assumption))))))))))) | exact And.right (And.right (And.right (And.right (And.right (And.right (And.right (And.right (And.right (And.right (And.right (And.right (by with_reducible assumption)))))))))))) | exact And.right (And.right (And.right (And.right (And.right (And.right (And.right (And.right (And.right (And.right (And.right (And.right (And.right (by with_reducible assumption))))))))))))) | exact And.right (And.right (And.right (And.right (And.right (And.right (And.right (And.right (And.right (And.right (And.right (And.right (And.right (And.right (by with_reducible assumption)))))))))))))) | exact And.right (And.right (And.right (And.right (And.right (And.right (And.right (And.right (And.right (And.right (And.right (And.right (And.right (And.right (And.right (by with_reducible assumption))))))))))))))) | exact And.right (And.right (And.right (And.right (And.right (And.right (And.right (And.right (And.right (And.right (And.right (And.right (And.right (And.right (And.right (And.right (by with_reducible assumption)))))))))))))))) | exact And.right (And.right (And.right (And.right (And.right (And.right (And.right (And.right (And.right (And.right (And.right (And.right (And.right (And.right (And.right (And.right (And.right (by with_reducible assumption))))))))))))))))) | exact And.right (And.right (And.right (And.right (And.right (And.right (And.right (And.right (And.right (And.right (And.right (And.right (And.right (And.right (And.right (And.right (And.right (And.right (by with_reducible assumption)))))))))))))))))) | exact And.right (And.right (And.right (And.right (And.right (And.right (And.right (And.right (And.right (And.right (And.right (And.right (And.right (And.right (And.right (And.right (And.right (And.right (And.right (by with_reducible assumption))))))))))))))))))) | exact And.right (And.right (And.right (And.right (And.right (And.right (And.right (And.right (And.right (And.right (And.right (And.right (And.right (And.right (And.right (And.right (And.right (And.right (And.right (And.right (by with_reducible assumption)))))))))))))))))))) | exact And.right (And.right (And.right (And.right (And.right (And.right (And.right (And.right (And.right (And.right (And.right (And.right (And.right (And.right (And.right (And.right (And.right (And.right (And.right (And.right (And.right (by with_reducible assumption))))))))))))))))))))) | exact And.right (And.right (And.right (And.right (And.right (And.right (And.right (And.right (And.right (And.right (And.right (And.right (And.right (And.right (And.right (And.right (And.right (And.right (And.right (And.right (And.right (And.right (by with_reducible assumption)))))))))))))))))))))) | exact And.right (And.right (And.right (And.right (And.right (And.right (And.right (And.right (And.right (And.right (And.right (And.right (And.right (And.right (And.right (And.right (And.right (And.right (And.right (And.right (And.right (And.right (And.right (by with_reducible assumption))))))))))))))))))))))) | exact And.right (And.right (And.right (And.right (And.right (And.right (And.right (And.right (And.right (And.right (And.right (And.right (And.right (And.right (And.right (And.right (And.right (And.right (And.right (And.right (And.right (And.right (And.right (And.right (by with_reducible assumption)))))))))))))))))))))))) | exact And.right (And.right (And.right (And.right (And.right (And.right (And.right (And.right (And.right (And.right (And.right (And.right (And.right (And.right (And.right (And.right (And.right (And.right (And.right (And.right (And.right (And.right (And.right (And.right (And.right (by with_reducible assumption))))))))))))))))))))))))) | fail "krn_off")
local macro_rules | `(tactic| k_all) => `(tactic| ((fail_if_success (refine List.forall_mem_cons.mpr ?_)); first | assumption | exact allLt_ne (by krn_off)))
local macro_rules | `(tactic| size_fits) => `(tactic| (simp only [List.size_toArray, PySem.sizeLine_eq]; omega))
local macro_rules | `(tactic| kbt_split) => `(tactic| first | exact Rm.head | (apply Rm.tail; kbt_split) | fail "kbt_split")
local macro_rules | `(tactic| tlg_ne) => `(tactic| first | exact off_nil | exact off_nil2 | (refine off_cons (by simp only [NeAll, and_true]; omega) ?_; tlg_ne) | exact off_sub (by assumption) (by first | (simp; done) | fail "tlg") | (refine off_lt (by krn_off) ?_; tlg_ne))
local macro_rules | `(tactic| fold_lay) => `(tactic| (refine' code_def ?k1 ?k2 ?k3 ?k4 ?k5 ?kA ?kF ?kK ?k6 ?k7 ?k8 ?k9 ?kB ?_ ?c2 ?c3 ?c4 ?c5; (case kA => exact rfl); (case kF => exact rfl); (case kK => first | exact rfl | assumption); (case k1 => k_asm); (case k2 => k_asm); (case k3 => k_asm); (case k4 => k_asm); (case k5 => k_asm); (case k6 => k_is); (case k7 => k_is); (case k8 => ktr_room); (case k9 => first | exact BindsTo.of_eq rfl | exact binds_K (by k_in) rfl (by k_is) rfl rfl rfl); (case c5 => decide); (case kB => exact locs rfl); (case c2 => exact rfl); (case c3 => exact rfl); (case c4 => exact rfl); k_whole; intro g' L' h' FG' F' N' B' X' T'; (try dsimp only); (try k_lift B'); (try k_fold)))
local macro_rules | `(tactic| walk_at "call ref") => `(tactic| (k_here; k_dflt (first
  | (refine' call_cls ?k1 ?k2 ?k3 ?k4 ?k5 ?k6 ?_; (case k1 => k_asm); (case k2 => k_asm); (case k3 => k_asm); (case k4 => k_is); (case k5 => k_is); (case k6 => k_is); k_whole; intro x' d' h' F' N' l1 l2; (try k_lt l1); (try k_lt2 l2); (try k_sweep); fold_lay)
  | (refine' call_meth ?k1 ?k2 ?_; (case k1 => k_asm); (case k2 => k_mem); k_whole; fold_lay)
  | (refine wpAny_call ?_; fold_lay))))
local macro_rules | `(tactic| ktr_units) => `(tactic| ((simp only [units_in1, units_deeper, Around.mark_units, units_make, units_ktr, cLine_is] at *); omega))
local macro_rules | `(tactic| ksw_less) => `(tactic| first | with_reducible exact sub3 | with_reducible assumption | (refine sub1 (by k_mem) ?_; ksw_less) | (refine sub2 ?_; ksw_less))
local macro_rules | `(tactic| k_mem) => `(tactic| ((fail_if_success (apply List.Mem.tail)); assumption))
section
variable {prog : Program} {w : World} {A : Around} {E : Value → Shared → Prop} {s : Shared} {env : Env} {h₀ : Heap} {x : Str} {body : List Stmt} {Q : Flow → Shared → Prop}
theorem unrPost_mono {L I : Addr} {it : Obj} {s₁ s₂ : Shared} {R R' : (Str → Option Value) → Led → Prop} {f : Flow} (h : UnrPost h₀ L s₁ I it R Q f s₂) (k : ∀ m n, (∀ p ∈ n, p.1 ≠ I) → R m n → R' m n) : UnrPost h₀ L s₁ I it R' Q f s₂ := by
  cases f with
  | ret v => exact h
  | brk => exact h
  | next => obtain ⟨h', tk, m', n', e, F, N, o, r⟩ := h; exact ⟨h', tk, m', n', e, F, N, o, k _ _ o r⟩
  | cont => obtain ⟨h', tk, m', n', e, F, N, o, r⟩ := h; exact ⟨h', tk, m', n', e, F, N, o, k _ _ o r⟩
theorem rev_ind {I : Addr} {lp : Addr × Obj} (J : List Value → (Str → Option Value) → Led → Prop)
    (turn : ∀ v r m nx h tk it, J (v :: r) m nx → (∀ p ∈ nx, p.1 ≠ I) → it.cls = .type "list_reverseiterator" → Fr h₀ env.locals h (fun y => if y = x then some v else m y) → News h₀ env.locals h ((I, it) :: nx) →
      wpAny (model prog w) A (execs body env) (UnrPost h₀ env.locals { s with heap := h, toks := tk } I it (fun m' n' => lp ∈ n' ∧ J r m' n') Q) E { s with heap := h, toks := tk })
    (done : ∀ m nx h tk, J [] m nx → Fr h₀ env.locals h m → News h₀ env.locals h nx → Q .next { s with heap := h, toks := tk }) :
    ∀ (vs : List Value) (m : Str → Option Value) (nx : Led), J vs m nx → (∀ p ∈ nx, p.1 ≠ I) → RevRest prog w A E h₀ env x body Q s I lp vs m nx := by
  intro vs
  induction vs with
  | nil => intro m nx hJ _ h tk F N; exact done m nx h tk hJ F N
  | cons v r ih =>
    intro m nx hJ ho it h tk e F N
    exact wpAny_mono (turn v r m nx h tk it hJ ho e F N) (fun f s₃ p => unrPost_mono p fun m' n' o q => ⟨q.1, ih m' n' q.2 o⟩) fun _ _ x => x
theorem iter_rev {ax I : Addr} {vs : List Value} {n : Nat} {m₀ : Str → Option Value} {news news' : Led}
    (hh : A.handled = none) (F : Fr h₀ env.locals s.heap m₀) (N : News h₀ env.locals s.heap news) (hR : Rm (I, revObj ax ((vs.length : Int) - 1)) news news') (ho : ∀ p ∈ news', p.1 ≠ I) (hm : (ax, listOf vs.toArray n) ∈ news')
    (rest : RevRest prog w A E h₀ env x body Q s I (ax, listOf vs.toArray n) vs.reverse m₀ news') :
    wpAny (model prog w) A (pyIter (.ref I)) (fun it s₂ => LoopAtV prog w A h₀ env x body Q E it s₂) E s :=
  iter_revUnr hh F (fun p hp => N p (hR.mem p hp)) (by
    clear rest hm hR N
    induction news' with
    | nil => exact True.intro
    | cons q r ih => exact ⟨.inl (ho q (.head _)), ih fun p hp => ho p (.tail _ hp)⟩) hm rfl rfl rest
end
local macro_rules | `(tactic| walk_at "exec For Name Call cons nil") => `(tactic| (k_here; (rename Fr _ _ _ _ => lF'); (with_unfolding_all refine' For_invVF lF' ?k1 ?k2 ?_; (case k1 => exact rfl); (case k2 => exact rfl); k_whole)))
local macro_rules | `(tactic| walk_at "pyIter ref") => `(tactic| (k_here; (with_reducible show wpAny _ _ (pyIter (Value.ref _)) (fun it s₂ => LoopAtV _ _ _ _ _ _ _ _ _ it s₂) _ _); (rename Fr _ _ _ _ => lF'); (rename News _ _ _ _ => lN'); (with_unfolding_all refine iter_rev (by rfl) lF' lN' (by kbt_split) (by k_all) (by k_mem) ?_); clear lF' lN'))
set_option maxHeartbeats 4000000 in
theorem later_spec {w : World} {mean : ExcName → Option Value} {mg mb : Str → Option Value} {rest : Led} {x dx xs xo an at' lo lw : Nat} {nb : Bool} {h1 h2 h3 h4 h5 h6 h7 h8 h9 h10 h11 : Int} {k1 k2 k3 k4 k5 k6 k7 k8 k9 k10 k11 : Tok} {la : Str} {ta : Tok} {lr : Nat} {W R : List Value} {n n2 : Nat}
    (hW : W.length ≤ 10000) (hR : R.length ≤ 10000) (ho : OwnOff rest [x, dx, lw, lr]) (hne : x ≠ dx ∧ x ≠ lw ∧ x ≠ lr ∧ dx ≠ lw ∧ dx ≠ lr ∧ lw ≠ lr) :
    Does 3 w mean mg mb 385 [.ref x, .ref lr] ((x, instObj 472 dx) :: (dx, dictOf [⟨h1, .str (Str.ofString "symbols") k1, .ref xs⟩, ⟨h2, .str (Str.ofString "operators") k2, .ref xo⟩, ⟨h3, .str (Str.ofString "quoted") k3, .bool true⟩, ⟨h4, .str (Str.ofString "ignore_ops") k4, .bool false⟩, ⟨h5, .str (Str.ofString "numbervars") k5, .bool nb⟩, ⟨h6, .str (Str.ofString "names") k6, .ref an⟩, ⟨h7, .str (Str.ofString "taken") k7, .ref at'⟩, ⟨h8, .str (Str.ofString "out") k8, .ref lo⟩, ⟨h9, .str (Str.ofString "last") k9, .str la ta⟩, ⟨h10, .str (Str.ofString "prefixed") k10, .bool false⟩, ⟨h11, .str (Str.ofString "work") k11, .ref lw⟩] 11) :: (lw, listOf W.toArray n) :: (lr, listOf R.toArray n2) :: rest)
      (fun r led => ∃ n', r = .none ∧ led = (x, instObj 472 dx) :: (dx, dictOf [⟨h1, .str (Str.ofString "symbols") k1, .ref xs⟩, ⟨h2, .str (Str.ofString "operators") k2, .ref xo⟩, ⟨h3, .str (Str.ofString "quoted") k3, .bool true⟩, ⟨h4, .str (Str.ofString "ignore_ops") k4, .bool false⟩, ⟨h5, .str (Str.ofString "numbervars") k5, .bool nb⟩, ⟨h6, .str (Str.ofString "names") k6, .ref an⟩, ⟨h7, .str (Str.ofString "taken") k7, .ref at'⟩, ⟨h8, .str (Str.ofString "out") k8, .ref lo⟩, ⟨h9, .str (Str.ofString "last") k9, .str la ta⟩, ⟨h10, .str (Str.ofString "prefixed") k10, .bool false⟩, ⟨h11, .str (Str.ofString "work") k11, .ref lw⟩] 11) :: (lw, listOf (W ++ R.reverse).toArray n') :: (lr, listOf R.toArray n2) :: rest) := by
  unfold Does
  intro dp un gd cn cs fa ccd cl outer A₀ base h₀ L m s Q E B F X N Tp hk hd hu hret
  refine wpAny_call ?_
  k_dflt cell_enter
  k_steps
  rename_i D _ l1
  refine rev_ind (J := fun r m nx => ∃ W' cnt, m (Str.ofString "self") = some (.ref x) ∧ W' ++ r = W ++ R.reverse ∧ nx = (x, instObj 472 dx) :: (dx, dictOf [⟨h1, .str (Str.ofString "symbols") k1, .ref xs⟩, ⟨h2, .str (Str.ofString "operators") k2, .ref xo⟩, ⟨h3, .str (Str.ofString "quoted") k3, .bool true⟩, ⟨h4, .str (Str.ofString "ignore_ops") k4, .bool false⟩, ⟨h5, .str (Str.ofString "numbervars") k5, .bool nb⟩, ⟨h6, .str (Str.ofString "names") k6, .ref an⟩, ⟨h7, .str (Str.ofString "taken") k7, .ref at'⟩, ⟨h8, .str (Str.ofString "out") k8, .ref lo⟩, ⟨h9, .str (Str.ofString "last") k9, .str la ta⟩, ⟨h10, .str (Str.ofString "prefixed") k10, .bool false⟩, ⟨h11, .str (Str.ofString "work") k11, .ref lw⟩] 11) :: (lw, listOf W'.toArray cnt) :: (lr, listOf R.toArray n2) :: rest) ?turn ?done R.reverse _ _ ⟨W, _, rfl, rfl, rfl⟩ (by first | k_all | fail)
  case turn =>
    intro v r m nx h tk it hJ hoffI hcls F N
    obtain ⟨W', cnt, hm1, hW', hnx⟩ := hJ
    rw [name_form hm1] at F
    dsimp only at F
    subst hnx
    have hlen : W'.length ≤ 20000 := by
      have := congrArg List.length hW'
      simp only [List.length_append, List.length_reverse, List.length_cons] at this
      omega
    k_steps
    rename Fr _ _ _ _ => lF
    rename News _ _ _ _ => lN
    refine unr_end lF lN (by first | kbt_split | fail) (by first | k_all | fail) ⟨by first | k_mem | fail, _, _, rfl, ?_, rfl⟩
    rw [← hW']; simp
  case done =>
    intro m nx h tk hJ F N
    obtain ⟨W', cnt, hm1, hW', hnx⟩ := hJ
    subst hnx
    k_steps
    rename_i kF kN _ _
    rw [List.append_nil] at hW'
    subst hW'
    exact hret _ _ _ _ ⟨_, rfl, rfl⟩ kF kN
end Mine
end
section
-- part E5
open PySem PySem.W PySem.Calls PyProof.Rows PyProof.V PySem.Spec
namespace Mine
local macro_rules | `(tactic| krn_off) => `(tactic| first | with_reducible assumption | exact allLt_of (by with_reducible assumption) | exact And.right (by with_reducible assumption) | exact And.right (And.right (by with_reducible assumption)) | exact And.right (And.right (And.right (by with_reducible assumption))) | exact And.right (And.right (And.right (And.right (by with_reducible assumption)))) | exact And.right (And.right (And.right (And.right (And.right (by with_reducible assumption))))) | exact And.right (And.right (And.right (And.right (And.right (And.right (by with_reducible assumption)))))) | exact And.right (And.right (And.right (And.right (And.right (And.right (And.right (by with_reducible assumption))))))) | exact And.right (And.right (And.right (And.right (And.right (And.right (And.right (And.right (by with_reducible assumption)))))))) | exact And.right (And.right (And.right (And.right (And.right (And.right (And.right (And.right (And.right (by with_reducible assumption))))))))) | exact And.right (And.right (And.right (And.right (And.right (And.right (And.right (And.right (And.right (And.right (by with_reducible assumption)))))))))) | exact And.right (And.right (And.right (And.right (And.right (And.right (And.right (And.right (And.right (And.right (And.right (by with_reducible assumption))))))))))) | exact And.right (And.right (And.right (And.right (And.right (And.right (And.right (And.right (And.right (And.right (And.right (And.right (by with_reducible assumption)))))))))))) | exact And.right (And.right (And.right (And.right (And.right (And.right (And.right (And.right (And.right (And.right (And.right (And.right (And.right (by with_reducible assumption))))))))))))) | exact And.right (And.right (And.right (And.right (And.right (And.right (And.right (And.right (And.right (And.right (And.right (And.right (And.right (And.right (by with_reducible assumption)))))))))))))) | exact And.right (And.right (And.right (And.right (And.right (And.right (And.right (And.right (And.right (And.right (And.right (And.right (And.right (And.right (And.right (by with_reducible assumption))))))))))))))) | exact And.right (And.right (And.right (And.right (And.right (And.right (And.right (And.right (And.right (And.right (And.right (And.right (And.right (And.right (And.right (And.right (by with_reducible assumption)))))))))))))))) | exact And.right (And.right (And.right (And.right (And.right (And.right (And.right (And.right (And.right (And.right (And.right (And.right (And.right (And.right (And.right (And.right (And.right (by with_reducible assumption))))))))))))))))) | exact And.right (And.right (And.right (And.right (And.right (And.right (And.right (And.right (And.right (And.right (And.right (And.right (And.right (And.right (And.right (And.right (And.right (And.right (by with_reducible assumption)))))))))))))))))) | exact And.right (And.right (And.right (And.right (And.right (And.right (And.right (And.right (And.right (And.right (And.right (And.right (And.right (And.right (And.right (And.right (And.right (And.right (And.right (by with_reducible assumption))))))))))))))))))) | exact And.right (And.right (And.right (And.right (And.right (And.right (And.right (And.right (And.right (And.right (And.right (And.right (And.right (And.right (And.right (And.right (And.right (And.right (And.right (And.right (by with_reducible assumption)))))))))))))))))))) | exact And.right (And.right (And.right (And.right (And.right (And.right (And.right (And.right (And.right (And.right (And.right (And.right (And.right (And.right (And.right (And.right (And.right (And.right (And.right (And.right (And.right (by with_reducible assumption))))))))))))))))))))) | exact And.right (And.right (And.right (And.right (And.right (And.right (And.right (And.right (And.right (And.right (And.right (And.right (And.right (And.right (And.right (And.right (And.right (And.right (And.right (And.right (And.right (And.right (by with_reducible assumption)))))))))))))))))))))) | exact And.right (And.right (And.right (And.right (And.right (And.right (And.right (And.right (And.right (And.right (And.right (And.right (And.right (And.right (And.right (And.right (And.right (And.right (And.right (And.right (And.right (And.right (And.right (by with_reducible assumption))))))))))))))))))))))) | exact And.right (And.right (And.right (And.right (And.right (And.right (And.right (And.right (And.right (And.right (And.right (And.right (And.right (And.right (And.right (And.right (And.right (And.right (And.right (And.right (And.right (And.right (And.right (And.right (by with_reducible assumption)))))))))))))))))))))))) | exact And.right (And.right (And.right (And.right (And.right (And.right (And.right (And.right (And.right (And.right (And.right (And.right (And.right (And.right (And.right (And.right (And.right (And.right (And.right (And.right (And.right (And.right (And.right (And.right (And.right (by with_reducible assumption))))))))))))))))))))))))) | fail "krn_off")
local macro_rules | `(tactic| k_all) => `(tactic| ((fail_if_success (refine List.forall_mem_cons.mpr ?_)); first | assumption | exact allLt_ne (by krn_off)))
local macro_rules | `(tactic| size_fits) => `(tactic| (simp only [List.size_toArray, PySem.sizeLine_eq]; omega))
local macro_rules | `(tactic| kbt_split) => `(tactic| first | exact Rm.head | (apply Rm.tail; kbt_split) | fail "kbt_split")
local macro_rules | `(tactic| tlg_ne) => `(tactic| first | exact off_nil | exact off_nil2 | (refine off_cons (by simp only [NeAll, and_true]; omega) ?_; tlg_ne) | exact off_sub (by assumption) (by first | (simp; done) | fail "tlg") | (refine off_lt (by krn_off) ?_; tlg_ne))
local macro_rules | `(tactic| fold_lay) => `(tactic| (refine' code_def ?k1 ?k2 ?k3 ?k4 ?k5 ?kA ?kF ?kK ?k6 ?k7 ?k8 ?k9 ?kB ?_ ?c2 ?c3 ?c4 ?c5; (case kA => exact rfl); (case kF => exact rfl); (case kK => first | exact rfl | assumption); (case k1 => k_asm); (case k2 => k_asm); (case k3 => k_asm); (case k4 => k_asm); (case k5 => k_asm); (case k6 => k_is); (case k7 => k_is); (case k8 => ktr_room); (case k9 => first | exact BindsTo.of_eq rfl | exact binds_K (by k_in) rfl (by k_is) rfl rfl rfl); (case c5 => decide); (case kB => exact locs rfl); (case c2 => exact rfl); (case c3 => exact rfl); (case c4 => exact rfl); k_whole; intro g' L' h' FG' F' N' B' X' T'; (try dsimp only); (try k_lift B'); (try k_fold)))
local macro_rules | `(tactic| walk_at "call ref") => `(tactic| (k_here; k_dflt (first
  | (refine' call_cls ?k1 ?k2 ?k3 ?k4 ?k5 ?k6 ?_; (case k1 => k_asm); (case k2 => k_asm); (case k3 => k_asm); (case k4 => k_is); (case k5 => k_is); (case k6 => k_is); k_whole; intro x' d' h' F' N' l1 l2; (try k_lt l1); (try k_lt2 l2); (try k_sweep); fold_lay)
  | (refine' call_meth ?k1 ?k2 ?_; (case k1 => k_asm); (case k2 => k_mem); k_whole; fold_lay)
  | (refine wpAny_call ?_; fold_lay))))
local macro_rules | `(tactic| ktr_units) => `(tactic| ((simp only [units_in1, units_deeper, Around.mark_units, units_make, units_ktr, cLine_is] at *); omega))
local macro_rules | `(tactic| ksw_less) => `(tactic| first | with_reducible exact sub3 | with_reducible assumption | (refine sub1 (by k_mem) ?_; ksw_less) | (refine sub2 ?_; ksw_less))
local macro_rules | `(tactic| k_mem) => `(tactic| ((fail_if_success (apply List.Mem.tail)); assumption))
inductive Task where
  | raw (s : Str)
  | term (T : Term)
  | lst (Ts : List Term)
inductive TaskIs (led : Led) : Value → Task → Prop
  | raw {a : Addr} {s : Str} {t u o : Tok} : (a, tupO [.str (Str.ofString "raw") t, .str s u, .int 0 o, .bool false]) ∈ led → TaskIs led (.ref a) (.raw s)
  | term {a : Addr} {v : Value} {T : Term} {t o : Tok} {l : Int} : (a, tupO [.str (Str.ofString "term") t, v, .int l o, .bool true]) ∈ led → TermIs led v T → TaskIs led (.ref a) (.term T)
  | lst {a : Addr} {v : Value} {Ts : List Term} {t o : Tok} {l : Int} : (a, tupO [.str (Str.ofString "term") t, v, .int l o, .bool true]) ∈ led → ChainIs led v Ts → TaskIs led (.ref a) (.lst Ts)
theorem TaskIs.mono {led led' : Led} {v : Value} {T : Task} (h : TaskIs led v T) (hs : ∀ p ∈ led, p ∈ led') : TaskIs led' v T := by
  cases h with
  | raw h => exact .raw (hs _ h)
  | term h h2 => exact .term (hs _ h) (h2.mono hs)
  | lst h h2 => exact .lst (hs _ h) (h2.mono hs)
inductive TasksAre (led : Led) : List Value → List Task → Prop
  | nil : TasksAre led [] []
  | cons {v : Value} {T : Task} {vs : List Value} {Ts : List Task} : TaskIs led v T → TasksAre led vs Ts → TasksAre led (v :: vs) (T :: Ts)
theorem TasksAre.mono {led led' : Led} {vs : List Value} {Ts : List Task} (h : TasksAre led vs Ts) (hs : ∀ p ∈ led, p ∈ led') : TasksAre led' vs Ts := by
  induction h with
  | nil => exact .nil
  | cons h _ ih => exact .cons (h.mono hs) ih
theorem TasksAre.snoc {led : Led} {vs : List Value} {Ts : List Task} {v : Value} {T : Task} (h : TasksAre led vs Ts) (h2 : TaskIs led v T) : TasksAre led (vs ++ [v]) (Ts ++ [T]) := by
  induction h with
  | nil => exact .cons h2 .nil
  | cons h _ ih => exact .cons h ih
theorem TasksAre.append {led : Led} {vs us : List Value} {Ts Us : List Task} (h : TasksAre led vs Ts) (h2 : TasksAre led us Us) : TasksAre led (vs ++ us) (Ts ++ Us) := by
  induction h with
  | nil => exact h2
  | cons h _ ih => exact .cons h ih
theorem TasksAre.reverse {led : Led} {vs : List Value} {Ts : List Task} (h : TasksAre led vs Ts) : TasksAre led vs.reverse Ts.reverse := by
  induction h with
  | nil => exact .nil
  | cons h _ ih => rw [List.reverse_cons, List.reverse_cons]; exact ih.snoc h
theorem TasksAre.length {led : Led} {vs : List Value} {Ts : List Task} (h : TasksAre led vs Ts) : vs.length = Ts.length := by
  induction h with
  | nil => rfl
  | cons _ _ ih => simp [ih]
/-- the tasks of a list's items -/
def tasksOf (Ts : List Term) : List Task := match Ts with | [] => [] | T :: r => .term T :: r.flatMap fun T => [.raw (Str.ofString ","), .term T]
theorem tasksOf_snoc (T : Term) (Ts : List Term) (T' : Term) : tasksOf (T :: Ts ++ [T']) = tasksOf (T :: Ts) ++ [.raw (Str.ofString ","), .term T'] := by
  simp [tasksOf]
theorem tasksOf_len (Ts : List Term) : (tasksOf Ts).length ≤ 2 * Ts.length := by
  cases Ts with
  | nil => simp [tasksOf]
  | cons T r =>
    have h : (r.flatMap fun T => [Task.raw (Str.ofString ","), Task.term T]).length = 2 * r.length := by
      induction r with
      | nil => rfl
      | cons T r ih => rw [List.flatMap_cons, List.length_append, ih]; simp; omega
    simp only [tasksOf, List.length_cons, h]; omega
theorem allLt_right {d : Nat} {r : Led} : ∀ {l : Led}, AllLt d (l ++ r) → AllLt d r
  | [], h => h
  | _ :: _, h => allLt_right h.2
theorem app_right {r rl : Led} : ∀ p ∈ r, p ∈ rl ++ r := fun _ hp => List.mem_append_right _ hp
theorem off_app {l r : Led} {adr : List Addr} (h : OwnOff (l ++ r) adr) : OwnOff l adr := fun p hp => h p (List.mem_append_left _ hp)
theorem iter_list2 {prog : Program} {w : World} {A : Around} {E : Value → Shared → Prop} {s : Shared} {env : Env} {h₀ : Heap} {target : Expr} {body : List Stmt} {Q : Flow → Shared → Prop} {ax : Addr} {vs : List Value} {n : Nat} {m₀ : Str → Option Value} {news : Led}
    (hh : A.handled = none) (F : Fr h₀ env.locals s.heap m₀) (N : News h₀ env.locals s.heap news) (hm : (ax, listOf vs.toArray n) ∈ news)
    (rest₀ : ∀ (I : Addr), (∀ p ∈ news, p.1 < I) → Rest prog w A E h₀ env target body Q s I "list_iterator" (ax, listOf vs.toArray n) vs m₀ news) :
    wpAny (model prog w) A (pyIter (.ref ax)) (fun it s₂ => TurnsAt prog w A h₀ env target body Q E it s₂) E s :=
  iter_listTurns (vs := vs) hh F N hm rfl rfl fun I l => rest₀ I l
local macro_rules | `(tactic| walk_at "call ref") => `(tactic| (k_here; (with_unfolding_all show wpAny _ _ (call (Value.ref 371) [Value.ref _, Value.str _ _]) _ _ _); k_dflt (refine' does_use ?B ?F ?X ?N ?T ?hk (token_spec ?a1 ?a2 ?a3 ?a4 ?a5 ?a6 ?a7) ?pk ?hd ?hu ?_; (case B => k_asm); (case F => k_asm); (case X => k_asm); (case N => k_asm); (case T => k_asm); (case hk => first | exact rfl | assumption); (case pk => (refine' Pk.cons ?q1 (Pk.cons ?q2 (Pk.cons ?q3 Pk.nil)); (case q1 => kbt_split); (case q2 => kbt_split); (case q3 => kbt_split))); (case a1 => first | assumption | (unfold Lasts4; simp; done)); (case a2 => omega); (case a3 => first | assumption | decide +kernel); (case a4 => first | assumption | decide +kernel); (case a5 => first | assumption | decide +kernel); (case a6 => tlg_ne); (case a7 => omega); (case hd => ktr_room); (case hu => ktr_units)); intro r9 n9 h9 t9 p9 F9 N9; (obtain ⟨ta9, no9, hr9, hled9⟩ := p9); (subst hr9); (subst hled9); (try dsimp only)))
local macro_rules | `(tactic| walk_at "call ref") => `(tactic| (k_here; (with_unfolding_all show wpAny _ _ (call (Value.ref 133) [Value.ref _]) _ _ _); k_dflt (refine' does_use ?B ?F ?X ?N ?T ?hk (items_spec ?a1 ?a2 ?a3) ?pk ?hd ?hu ?_; (case B => k_asm); (case F => k_asm); (case X => k_asm); (case N => k_asm); (case T => k_asm); (case hk => first | exact rfl | assumption); (case pk => exact Pk.nil); (case a1 => assumption); (case a2 => ksw_less); (case a3 => omega); (case hd => ktr_room); (case hu => ktr_units)); intro r9 n9 h9 t9 p9 F9 N9; (obtain ⟨a9, b9, c9, vs9, m9, tc9, uc9, hr9, hT9, hc9, l9, l10, hled9⟩ := p9); (subst hr9); (subst hled9); (have l11 := fun p hp => Nat.lt_trans (l9 p hp) l10); (try k_lt l9); (try k_lt l11); (try dsimp only)))
local macro_rules | `(tactic| walk_at "call ref") => `(tactic| (k_here; (with_unfolding_all show wpAny _ _ (call (Value.ref 385) [Value.ref _, Value.ref _]) _ _ _); k_dflt (refine' does_use ?B ?F ?X ?N ?T ?hk (later_spec ?a1 ?a2 ?a3 ?a4) ?pk ?hd ?hu ?_; (case B => k_asm); (case F => k_asm); (case X => k_asm); (case N => k_asm); (case T => k_asm); (case hk => first | exact rfl | assumption); (case pk => (refine' Pk.cons ?q1 (Pk.cons ?q2 (Pk.cons ?q3 (Pk.cons ?q4 Pk.nil))); (case q1 => kbt_split); (case q2 => kbt_split); (case q3 => kbt_split); (case q4 => kbt_split))); (case a1 => omega); (case a2 => first | omega | (simp only [List.concat_eq_append, List.length_append, List.length_cons, List.length_nil]; omega)); (case a3 => tlg_ne); (case a4 => omega); (case hd => ktr_room); (case hu => ktr_units)); intro r9 n9 h9 t9 p9 F9 N9; (obtain ⟨no9, hr9, hled9⟩ := p9); (subst hr9); (subst hled9); (try dsimp only)))
local macro_rules | `(tactic| walk_at "exec For Name Name cons nil") => `(tactic| (k_here; (rename Fr _ _ _ _ => lF'); (with_unfolding_all refine' For_turns lF' ?_; k_whole)))
local macro_rules | `(tactic| walk_at "pyIter ref") => `(tactic| (k_here; (with_reducible show wpAny _ _ (pyIter (Value.ref _)) (fun it s₂ => TurnsAt _ _ _ _ _ _ _ _ _ it s₂) _ _); (rename Fr _ _ _ _ => lF'); (rename News _ _ _ _ => lN'); (with_unfolding_all refine iter_list2 (by rfl) lF' lN' (by k_mem) ?_); clear lF' lN'; intro i' l1; (try k_lt l1)))
set_option maxHeartbeats 8000000 in
theorem wlist_spec {w : World} {mean : ExcName → Option Value} {mg mb : Str → Option Value} {rest r0 : Led} {x dx xs xo an at' lo lw : Nat} {nb : Bool} {h1 h2 h3 h4 h5 h6 h7 h8 h9 h10 h11 : Int} {k1 k2 k3 k4 k5 k6 k7 k8 k9 k10 k11 : Tok} {la : Str} {ta : Tok} {v : Addr} {W O : List Value} {n no : Nat} {Ts : List Term}
    (hla : la ∈ Lasts4) (hO : O.length ≤ 1000) (hW : W.length ≤ 1000) (hc : ChainIs r0 (.ref v) Ts) (hsub : ∀ p ∈ r0, p ∈ rest) (hn : Ts.length ≤ 100) (ho : OwnOff rest [x, dx, lo, lw]) (hne : x ≠ dx ∧ x ≠ lo ∧ x ≠ lw ∧ dx ≠ lo ∧ dx ≠ lw ∧ lo ≠ lw) :
    Does 9 w mean mg mb 420 [.ref x, .ref v] ((x, instObj 472 dx) :: (dx, dictOf [⟨h1, .str (Str.ofString "symbols") k1, .ref xs⟩, ⟨h2, .str (Str.ofString "operators") k2, .ref xo⟩, ⟨h3, .str (Str.ofString "quoted") k3, .bool true⟩, ⟨h4, .str (Str.ofString "ignore_ops") k4, .bool false⟩, ⟨h5, .str (Str.ofString "numbervars") k5, .bool nb⟩, ⟨h6, .str (Str.ofString "names") k6, .ref an⟩, ⟨h7, .str (Str.ofString "taken") k7, .ref at'⟩, ⟨h8, .str (Str.ofString "out") k8, .ref lo⟩, ⟨h9, .str (Str.ofString "last") k9, .str (la) ta⟩, ⟨h10, .str (Str.ofString "prefixed") k10, .bool false⟩, ⟨h11, .str (Str.ofString "work") k11, .ref lw⟩] 11) :: (lo, listOf O.toArray no) :: (lw, listOf W.toArray n) :: rest)
      (fun r led => ∃ R n' no' ta' tb rl, r = .none ∧ TasksAre (rl ++ r0) R (tasksOf Ts ++ [.raw (Str.ofString "]")]) ∧ OwnOff rl [x, dx, lo, lw] ∧ Above rl rest ∧
        led = (x, instObj 472 dx) :: (dx, dictOf [⟨h1, .str (Str.ofString "symbols") k1, .ref xs⟩, ⟨h2, .str (Str.ofString "operators") k2, .ref xo⟩, ⟨h3, .str (Str.ofString "quoted") k3, .bool true⟩, ⟨h4, .str (Str.ofString "ignore_ops") k4, .bool false⟩, ⟨h5, .str (Str.ofString "numbervars") k5, .bool nb⟩, ⟨h6, .str (Str.ofString "names") k6, .ref an⟩, ⟨h7, .str (Str.ofString "taken") k7, .ref at'⟩, ⟨h8, .str (Str.ofString "out") k8, .ref lo⟩, ⟨h9, .str (Str.ofString "last") k9, .str ((Str.ofString "[")) ta'⟩, ⟨h10, .str (Str.ofString "prefixed") k10, .bool false⟩, ⟨h11, .str (Str.ofString "work") k11, .ref lw⟩] 11) :: (lo, listOf (O ++ [Value.str (Str.ofString "[") tb]).toArray no') :: (lw, listOf (W ++ R.reverse).toArray n') :: (rl ++ rest)) := by
  unfold Does
  intro dp un gd cn cs fa ccd cl outer A₀ base h₀ L m s Q E B F X N Tp hk hd hu hret
  refine wpAny_call ?_
  k_dflt cell_enter
  k_steps
  rename_i a b c vs m9 tc uc hT9 hc9 l10 l9 l11 _ _ _ k _ _ ta9 no9 lr _ q1 _ I q2
  have hoR : OwnOff rest [lr, b, x, dx, lo, lw] := off_lt (by krn_off) (off_lt (by krn_off) ho)
  refine rest_go (J := fun r m nx => ∃ done todo R' cnt rl rr, m (Str.ofString "self") = some (.ref x) ∧ m (Str.ofString "tail") = some (.ref c) ∧ m (Str.ofString "rows") = some (.ref lr) ∧ TermsAre r0 r todo ∧ done ++ todo = Ts ∧ rr = rl ++ rest ∧ TasksAre (rl ++ r0) R' (tasksOf done) ∧ OwnOff rr [lr, b, x, dx, lo, lw] ∧ Above rl rest ∧ (∀ p ∈ rr, p.1 ≠ I) ∧
      nx = (x, instObj 472 dx) :: (dx, dictOf [⟨h1, .str (Str.ofString "symbols") k1, .ref xs⟩, ⟨h2, .str (Str.ofString "operators") k2, .ref xo⟩, ⟨h3, .str (Str.ofString "quoted") k3, .bool true⟩, ⟨h4, .str (Str.ofString "ignore_ops") k4, .bool false⟩, ⟨h5, .str (Str.ofString "numbervars") k5, .bool nb⟩, ⟨h6, .str (Str.ofString "names") k6, .ref an⟩, ⟨h7, .str (Str.ofString "taken") k7, .ref at'⟩, ⟨h8, .str (Str.ofString "out") k8, .ref lo⟩, ⟨h9, .str (Str.ofString "last") k9, .str ((Str.ofString "[")) ta9⟩, ⟨h10, .str (Str.ofString "prefixed") k10, .bool false⟩, ⟨h11, .str (Str.ofString "work") k11, .ref lw⟩] 11) :: (lo, listOf (O ++ [Value.str (Str.ofString "[") k]).toArray no9) :: (lw, listOf W.toArray n) :: (lr, listOf R'.toArray cnt) :: (b, listOf vs.toArray m9) :: rr) ?turn ?done ⟨_, ?sub, ⟨[], Ts, [], 0, [], rest, rfl, rfl, rfl, hT9, rfl, rfl, .nil, hoR, True.intro, ?o1, rfl⟩, ?o2⟩
  case sub => first | ksw_less | fail
  case o1 => exact allLt_ne (by krn_off)
  case o2 => first | k_all | fail
  case turn =>
    intro v r m nx h tk it hJ hoffI hcls F N
    obtain ⟨done, todo, R', cnt, rl, rr, hm1, hm2, hm3, hr, hdt, hrr, hR, hof, hab, hI, hnx⟩ := hJ
    rw [name_form hm1] at F
    rw [name_form hm2] at F
    rw [name_form hm3] at F
    dsimp only at F
    have hrs : ∀ p ∈ rest, p ∈ rr := by subst hrr; exact app_right
    subst hnx
    cases hr with
    | cons hT hr =>
      have hlen : R'.length ≤ 200 := by
        have h1 := tasksOf_len done
        have h2 := congrArg List.length hdt
        rw [List.length_append] at h2
        rw [hR.length]; omega
      cases done with
      | nil =>
        cases hR
        k_steps
        rename_i D _ l1 _ lF lN
        have lD : @LT.lt Nat _ I D ∧ @LT.lt Nat _ x D ∧ @LT.lt Nat _ dx D ∧ @LT.lt Nat _ lo D ∧ @LT.lt Nat _ lw D ∧ @LT.lt Nat _ lr D ∧ @LT.lt Nat _ b D := by refine ⟨?_, ?_, ?_, ?_, ?_, ?_, ?_⟩ <;> omega
        have lDr : AllLt D rr := by first | krn_off | fail
        refine turn_end ((x, instObj 472 dx) :: (dx, dictOf [⟨h1, .str (Str.ofString "symbols") k1, .ref xs⟩, ⟨h2, .str (Str.ofString "operators") k2, .ref xo⟩, ⟨h3, .str (Str.ofString "quoted") k3, .bool true⟩, ⟨h4, .str (Str.ofString "ignore_ops") k4, .bool false⟩, ⟨h5, .str (Str.ofString "numbervars") k5, .bool nb⟩, ⟨h6, .str (Str.ofString "names") k6, .ref an⟩, ⟨h7, .str (Str.ofString "taken") k7, .ref at'⟩, ⟨h8, .str (Str.ofString "out") k8, .ref lo⟩, ⟨h9, .str (Str.ofString "last") k9, .str ((Str.ofString "[")) ta9⟩, ⟨h10, .str (Str.ofString "prefixed") k10, .bool false⟩, ⟨h11, .str (Str.ofString "work") k11, .ref lw⟩] 11) :: (lo, listOf (O ++ [Value.str (Str.ofString "[") k]).toArray no9) :: (lw, listOf W.toArray n) :: (lr, listOf ([Value.ref D]).toArray (cnt + 1)) :: (b, listOf vs.toArray m9) :: ((_, _) :: rr)) lF lN (by first | ksw_less | fail) (by first | k_all | fail) ⟨⟨by first | k_mem | fail, trivial⟩, [_], _, [Value.ref D], cnt + 1, (D, _) :: rl, (D, _) :: rr, rfl, rfl, rfl, hr, hdt, (by rw [hrr]; exact rfl), .cons (.term (.head _) (hT.mono fun p hp => .tail _ (app_right p hp))) .nil, off_cons (by simp only [NeAll, and_true]; omega) hof, above_cons (allLt_right (hrr ▸ lDr)) hab, ?e2, rfl⟩
        case e2 => exact List.forall_mem_cons.mpr ⟨Nat.ne_of_gt lD.1, hI⟩
      | cons T0 done =>
        cases hR with
        | @cons v0 _ R0 _ hR0 hR =>
          k_steps
          rename_i D1 _ l1 _ _ D2 _ l2 _ lF lN
          simp only [List.concat_eq_append, List.append_assoc, List.cons_append, List.nil_append, List.push_toArray] at lN
          have lD1 : @LT.lt Nat _ I D1 ∧ @LT.lt Nat _ x D1 ∧ @LT.lt Nat _ dx D1 ∧ @LT.lt Nat _ lo D1 ∧ @LT.lt Nat _ lw D1 ∧ @LT.lt Nat _ lr D1 ∧ @LT.lt Nat _ b D1 := by refine ⟨?_, ?_, ?_, ?_, ?_, ?_, ?_⟩ <;> omega
          have lD2 : @LT.lt Nat _ I D2 ∧ @LT.lt Nat _ x D2 ∧ @LT.lt Nat _ dx D2 ∧ @LT.lt Nat _ lo D2 ∧ @LT.lt Nat _ lw D2 ∧ @LT.lt Nat _ lr D2 ∧ @LT.lt Nat _ b D2 := by refine ⟨?_, ?_, ?_, ?_, ?_, ?_, ?_⟩ <;> omega
          have lDr1 : AllLt D1 rr := by first | krn_off | fail
          have lDr2 : AllLt D2 rr := by first | krn_off | fail
          refine turn_end ((x, instObj 472 dx) :: (dx, dictOf [⟨h1, .str (Str.ofString "symbols") k1, .ref xs⟩, ⟨h2, .str (Str.ofString "operators") k2, .ref xo⟩, ⟨h3, .str (Str.ofString "quoted") k3, .bool true⟩, ⟨h4, .str (Str.ofString "ignore_ops") k4, .bool false⟩, ⟨h5, .str (Str.ofString "numbervars") k5, .bool nb⟩, ⟨h6, .str (Str.ofString "names") k6, .ref an⟩, ⟨h7, .str (Str.ofString "taken") k7, .ref at'⟩, ⟨h8, .str (Str.ofString "out") k8, .ref lo⟩, ⟨h9, .str (Str.ofString "last") k9, .str ((Str.ofString "[")) ta9⟩, ⟨h10, .str (Str.ofString "prefixed") k10, .bool false⟩, ⟨h11, .str (Str.ofString "work") k11, .ref lw⟩] 11) :: (lo, listOf (O ++ [Value.str (Str.ofString "[") k]).toArray no9) :: (lw, listOf W.toArray n) :: (lr, listOf (v0 :: (R0 ++ [Value.ref D1, Value.ref D2])).toArray (cnt + 1 + 1)) :: (b, listOf vs.toArray m9) :: ((_, _) :: (_, _) :: rr)) lF lN (by first | ksw_less | fail) (by first | k_all | fail) ⟨⟨by first | k_mem | fail, trivial⟩, T0 :: done ++ [_], _, v0 :: (R0 ++ [Value.ref D1, Value.ref D2]), cnt + 1 + 1, (D2, _) :: (D1, _) :: rl, (D2, _) :: (D1, _) :: rr, rfl, rfl, rfl, hr, ?e3, (by rw [hrr]; exact rfl), tasksOf_snoc _ _ _ ▸ (TasksAre.append (TasksAre.mono (.cons hR0 hR) fun p hp => .tail _ (.tail _ hp)) (.cons (.raw (.tail _ (.head _))) (.cons (.term (.head _) (hT.mono fun p hp => .tail _ (.tail _ (app_right p hp)))) .nil))), off_cons (by simp only [NeAll, and_true]; omega) (off_cons (by simp only [NeAll, and_true]; omega) hof), above_cons (allLt_right (hrr ▸ lDr2)) (above_cons (allLt_right (hrr ▸ lDr1)) hab), ?e2, rfl⟩
          case e3 => rw [← hdt]; simp
          case e2 => exact List.forall_mem_cons.mpr ⟨Nat.ne_of_gt lD2.1, List.forall_mem_cons.mpr ⟨Nat.ne_of_gt lD1.1, hI⟩⟩
  case done =>
    intro m nx h tk hJ F N
    obtain ⟨done, todo, R', cnt, rl, rr, hm1, hm2, hm3, hr, hdt, hrr, hR, hof, hab, hI, hnx⟩ := hJ
    rw [name_form hm1] at F
    rw [name_form hm2] at F
    rw [name_form hm3] at F
    dsimp only at F
    have hrs : ∀ p ∈ rest, p ∈ rr := by subst hrr; exact app_right
    have hc9' := hrs _ (hsub _ hc9)
    subst hnx
    cases hr
    rw [List.append_nil] at hdt
    have hlen : R'.length ≤ 300 := by
      have h1 := tasksOf_len done
      have h2 := congrArg List.length hdt
      rw [hR.length]; omega
    k_steps
    rename_i D _ l1 _ _ _ _ _ _ _ no7 kF kN _ _
    simp only [List.concat_eq_append, List.toList_toArray] at kN
    have lDr : AllLt D rr := by first | krn_off | fail
    subst hrr
    refine hret _ _ _ _ ⟨R' ++ [Value.ref D], _, no9, ta9, k, (D, _) :: rl, rfl, TasksAre.snoc (hdt ▸ hR.mono fun p hp => .tail _ hp) (.raw (.head _)), off_cons (by simp only [NeAll, and_true]; omega) (off_sub (off_app hof) (by simp)), above_cons (allLt_right lDr) hab, rfl⟩ kF (cb_drop kN (by (repeat (refine sub1 (by first | k_mem | fail) ?_)); intro p hp; (repeat (first | exact hp | apply List.Mem.tail))))
end Mine
end
section
-- part E6
open PySem PySem.W PySem.Calls PyProof.Rows PyProof.V PySem.Spec
namespace Mine
local macro_rules | `(tactic| krn_off) => `(tactic| first | with_reducible assumption | exact allLt_of (by with_reducible assumption) | exact And.right (by with_reducible assumption) | exact And.right (And.right (by with_reducible assumption)) | exact And.right (And.right (And.right (by with_reducible assumption))) | exact And.right (And.right (And.right (And.right (by with_reducible assumption)))) | exact And.right (And.right (And.right (And.right (And.right (by with_reducible assumption))))) | exact And.right (And.right (And.right (And.right (And.right (And.right (by with_reducible assumption)))))) | exact And.right (And.right (And.right (And.right (And.right (And.right (And.right (by with_reducible assumption))))))) | exact And.right (And.right (And.right (And.right (And.right (And.right (And.right (And.right (by with_reducible assumption)))))))) | exact And.right (And.right (And.right (And.right (And.right (And.right (And.right (And.right (And.right (by with_reducible assumption))))))))) | exact And.right (And.right (And.right (And.right (And.right (And.right (And.right (And.right (And.right (And.right (by with_reducible assumption)))))))))) | exact And.right (And.right (And.right (And.right (And.right (And.right (And.right (And.right (And.right (And.right (And.right (by with_reducible assumption))))))))))) | exact And.right (And.right (And.right (And.right (And.right (And.right (And.right (And.right (And.right (And.right (And.right (And.right (by with_reducible assumption)))))))))))) | exact And.right (And.right (And.right (And.right (And.right (And.right (And.right (And.right (And.right (And.right (And.right (And.right (And.right (by with_reducible assumption))))))))))))) | exact And.right (And.right (And.right (And.right (And.right (And.right (And.right (And.right (And.right (And.right (And.right (And.right (And.right (And.right (by with_reducible assumption)))))))))))))) | exact And.right (And.right (And.right (And.right (And.right (And.right (And.right (And.right (And.right (And.right (And.right (And.right (And.right (And.right (And.right (by with_reducible assumption))))))))))))))) | exact And.right (And.right (And.right (And.right (And.right (And.right (And.right (And.right (And.right (And.right (And.right (And.right (And.right (And.right (And.right (And.right (by with_reducible assumption)))))))))))))))) | exact And.right (And.right (And.right (And.right (And.right (And.right (And.right (And.right (And.right (And.right (And.right (And.right (And.right (And.right (And.right (And.right (And.right (by with_reducible assumption))))))))))))))))) | exact And.right (And.right (And.right (And.right (And.right (And.right (And.right (And.right (And.right (And.right (And.right (And.right (And.right (And.right (And.right (And.right (And.right (And.right (by with_reducible assumption)))))))))))))))))) | exact And.right (And.right (And.right (And.right (And.right (And.right (And.right (And.right (And.right (And.right (And.right (And.right (And.right (And.right (And.right (And.right (And.right (And.right (And.right (by with_reducible assumption))))))))))))))))))) | exact And.right (And.right (And.right (And.right (And.right (And.right (And.right (And.right (And.right (And.right (And.right (And.right (And.right (And.right (And.right (And.right (And.right (And.right (And.right (And.right (by with_reducible assumption)))))))))))))))))))) | exact And.right (And.right (And.right (And.right (And.right (And.right (And.right (And.right (And.right (And.right (And.right (And.right (And.right (And.right (And.right (And.right (And.right (And.right (And.right (And.right (And.right (by with_reducible assumption))))))))))))))))))))) | exact And.right (And.right (And.right (And.right (And.right (And.right (And.right (And.right (And.right (And.right (And.right (And.right (And.right (And.right (And.right (And.right (And.right (And.right (And.right (And.right (And.right (And.right (by with_reducible assumption)))))))))))))))))))))) | exact And.right (And.right (And.right (And.right (And.right (And.right (And.right (And.right (And.right (And.right (And.right (And.right (And.right (And.right (And.right (And.right (And.right (And.right (And.right (And.right (And.right (And.right (And.right (by with_reducible assumption))))))))))))))))))))))) | exact And.right (And.right (And.right (And.right (And.right (And.right (And.right (And.right (And.right (And.right (And.right (And.right (And.right (And.right (And.right (And.right (And.right (And.right (And.right (And.right (And.right (And.right (And.right (And.right (by with_reducible assumption)))))))))))))))))))))))) | exact And.right (And.right (And.right (And.right (And.right (And.right (And.right (And.right (And.right (And.right (And.right (And.right (And.right (And.right (And.right (And.right (And.right (And.right (And.right (And.right (And.right (And.right (And.right (And.right (And.right (by with_reducible assumption))))))))))))))))))))))))) | fail "krn_off")
local macro_rules | `(tactic| k_all) => `(tactic| ((fail_if_success (refine List.forall_mem_cons.mpr ?_)); first | assumption | exact allLt_ne (by krn_off)))
local macro_rules | `(tactic| size_fits) => `(tactic| (simp only [List.size_toArray, PySem.sizeLine_eq]; omega))
local macro_rules | `(tactic| kbt_split) => `(tactic| first | exact Rm.head | (apply Rm.tail; kbt_split) | fail "kbt_split")
local macro_rules | `(tactic| tlg_ne) => `(tactic| first | exact off_nil | exact off_nil2 | (refine off_cons (by simp only [NeAll, and_true]; omega) ?_; tlg_ne) | exact off_sub (by assumption) (by first | (simp; done) | fail "tlg") | (refine off_lt (by krn_off) ?_; tlg_ne))
local macro_rules | `(tactic| fold_lay) => `(tactic| (refine' code_def ?k1 ?k2 ?k3 ?k4 ?k5 ?kA ?kF ?kK ?k6 ?k7 ?k8 ?k9 ?kB ?_ ?c2 ?c3 ?c4 ?c5; (case kA => exact rfl); (case kF => exact rfl); (case kK => first | exact rfl | assumption); (case k1 => k_asm); (case k2 => k_asm); (case k3 => k_asm); (case k4 => k_asm); (case k5 => k_asm); (case k6 => k_is); (case k7 => k_is); (case k8 => ktr_room); (case k9 => first | exact BindsTo.of_eq rfl | exact binds_K (by k_in) rfl (by k_is) rfl rfl rfl); (case c5 => decide); (case kB => exact locs rfl); (case c2 => exact rfl); (case c3 => exact rfl); (case c4 => exact rfl); k_whole; intro g' L' h' FG' F' N' B' X' T'; (try dsimp only); (try k_lift B'); (try k_fold)))
local macro_rules | `(tactic| walk_at "call ref") => `(tactic| (k_here; k_dflt (first
  | (refine' call_cls ?k1 ?k2 ?k3 ?k4 ?k5 ?k6 ?_; (case k1 => k_asm); (case k2 => k_asm); (case k3 => k_asm); (case k4 => k_is); (case k5 => k_is); (case k6 => k_is); k_whole; intro x' d' h' F' N' l1 l2; (try k_lt l1); (try k_lt2 l2); (try k_sweep); fold_lay)
  | (refine' call_meth ?k1 ?k2 ?_; (case k1 => k_asm); (case k2 => k_mem); k_whole; fold_lay)
  | (refine wpAny_call ?_; fold_lay))))
local macro_rules | `(tactic| ktr_units) => `(tactic| ((simp only [units_in1, units_deeper, Around.mark_units, units_make, units_ktr, cLine_is] at *); omega))
local macro_rules | `(tactic| ksw_less) => `(tactic| first | with_reducible exact sub3 | with_reducible assumption | (refine sub1 (by k_mem) ?_; ksw_less) | (refine sub2 ?_; ksw_less))
local macro_rules | `(tactic| k_mem) => `(tactic| ((fail_if_success (apply List.Mem.tail)); assumption))
local macro_rules | `(tactic| walk_at "call ref") => `(tactic| (k_here; (with_unfolding_all show wpAny _ _ (call (Value.ref 371) [Value.ref _, Value.str _ _]) _ _ _); k_dflt (refine' does_use ?B ?F ?X ?N ?T ?hk (token_spec ?a1 ?a2 ?a3 ?a4 ?a5 ?a6 ?a7) ?pk ?hd ?hu ?_; (case B => k_asm); (case F => k_asm); (case X => k_asm); (case N => k_asm); (case T => k_asm); (case hk => first | exact rfl | assumption); (case pk => (refine' Pk.cons ?q1 (Pk.cons ?q2 (Pk.cons ?q3 Pk.nil)); (case q1 => kbt_split); (case q2 => kbt_split); (case q3 => kbt_split))); (case a1 => first | assumption | (unfold Lasts4; simp; done)); (case a2 => omega); (case a3 => first | assumption | decide +kernel); (case a4 => first | assumption | decide +kernel); (case a5 => first | assumption | decide +kernel); (case a6 => tlg_ne); (case a7 => omega); (case hd => ktr_room); (case hu => ktr_units)); intro r9 n9 h9 t9 p9 F9 N9; (obtain ⟨ta9, no9, hr9, hled9⟩ := p9); (subst hr9); (subst hled9); (try dsimp only)))
local macro_rules | `(tactic| walk_at "call ref") => `(tactic| (k_here; (with_unfolding_all show wpAny _ _ (call (Value.ref 175) [Value.int _ _]) _ _ _); k_dflt (refine' does_use ?B ?F ?X ?N ?T ?hk (number_spec ?a1) ?pk ?hd ?hu ?_; (case B => k_asm); (case F => k_asm); (case X => k_asm); (case N => k_asm); (case T => k_asm); (case hk => first | exact rfl | assumption); (case pk => exact Pk.nil); (case a1 => first | assumption | decide +kernel); (case hd => ktr_room); (case hu => ktr_units)); intro r9 n9 h9 t9 p9 F9 N9; (obtain ⟨tk9, hr9, hled9⟩ := p9); (subst hr9); (subst hled9); (try dsimp only)))
local macro_rules | `(tactic| walk_at "call ref") => `(tactic| (k_here; (with_unfolding_all show wpAny _ _ (call (Value.ref 399) [Value.ref _, Value.int _ _]) _ _ _); k_dflt (refine' does_use ?B ?F ?X ?N ?T ?hk (var_spec ?a1 ?a2 ?a3 ?a4 ?a5 ?a6 ?a7 ?a8 ?a9) ?pk ?hd ?hu ?_; (case B => k_asm); (case F => k_asm); (case X => k_asm); (case N => k_asm); (case T => k_asm); (case hk => first | exact rfl | assumption); (case pk => (refine' Pk.cons ?q1 (Pk.cons ?q2 (Pk.cons ?q3 (Pk.cons ?q4 Pk.nil))); (case q1 => kbt_split); (case q2 => kbt_split); (case q3 => kbt_split); (case q4 => kbt_split))); (case a1 => assumption); (case a2 => k_asm); (case a3 => assumption); (case a4 => assumption); (case a5 => k_asm); (case a6 => assumption); (case a7 => assumption); (case a8 => assumption); (case a9 => assumption); (case hd => ktr_room); (case hu => ktr_units)); intro r9 n9 h9 t9 p9 F9 N9; (obtain ⟨tk9, hr9, hled9⟩ := p9); (subst hr9); (subst hled9); (try dsimp only)))
theorem grow_len {ys : List Str} (hs : Short ys) : ∀ n t, 1 ≤ t.length → t.length ≤ 20 → 1 ≤ (grow ys n t).length ∧ (grow ys n t).length ≤ 20
  | 0, t, h1, h2 => ⟨h1, h2⟩
  | n + 1, t, h1, h2 => by
    unfold grow
    split
    · rename_i h
      have h5 : ¬ 5 ≤ t.length := fun h5 => by rw [short_any hs h5] at h; cases h
      have h6 : (t ++ Str.ofString "_").length = t.length + 1 := by rw [Str.length_append, show (Str.ofString "_").length = 1 from by decide +kernel]
      exact grow_len hs n _ (by omega) (by omega)
    · exact ⟨h1, h2⟩
theorem look_mem {c : Tbl} {k : Int} {t : Str} (h : look c k = some t) : t ∈ vals c := by
  unfold look at h
  cases e : c.find? (fun p => decide (p.1 = k)) with
  | none => rw [e] at h; cases h
  | some p =>
    rw [e] at h
    cases h
    exact List.mem_map.mpr ⟨p, List.mem_of_find?_eq_some e, rfl⟩
def Long (ys : List Str) : Prop := ∀ y ∈ ys, 1 ≤ y.length
theorem name_len {c : Tbl} {k : Int} (hs : Short (vals c)) (hl : Long (vals c)) (h0 : 0 ≤ k) (h3 : k < 4) : 1 ≤ (nameT c k).length ∧ (nameT c k).length ≤ 20 := by
  unfold nameT
  cases h : look c k with
  | some t =>
    have h1 := hs t (look_mem h)
    have h2 := hl t (look_mem h)
    refine ⟨h2, ?_⟩
    show t.length ≤ 20
    omega
  | none =>
    have h2 := uk_len h0 h3
    exact grow_len hs 4 (uk k) (by omega) (by omega)
theorem str_ne {t : Str} (h : 1 ≤ t.length) : (t != Str.ofString "") = true := by
  rw [bne_iff_ne]
  intro e
  rw [e] at h
  exact absurd h (by decide +kernel)
set_option maxHeartbeats 8000000 in
theorem wv_spec {w : World} {mean : ExcName → Option Value} {mg mb : Str → Option Value} {rest : Led} {x dx xs xo an at' lo lw : Nat} {nb : Bool} {h1 h2 h3 h4 h5 h6 h7 h8 h9 h10 h11 : Int} {k1 k2 k3 k4 k5 k6 k7 k8 k9 k10 k11 : Tok} {la : Str} {ta : Tok} {v : Addr} {O : List Value} {no : Nat} {k l : Int} {tl : Tok} {c : Tbl} {on ot : Obj} {kn : List (Int × Value)} {kt : List (Str × Value)}
    (hs : Short (vals c)) (hl : Long (vals c)) (hdn : on.IsDictOf (PySem.intKind P0 w) kn) (hfn : FlatPairs PyData.int kn (tblD c)) (hln : (an == sysModules) = false) (hdt : ot.IsDictOf (PySem.strKind P0 w) kt) (hft : FlatPairs PyData.str kt (takD (vals c))) (hlt : (at' == sysModules) = false) (hk0 : 0 ≤ k) (hk3 : k < 4)
    (hla : la ∈ Lasts4) (hO : O.length ≤ 1000) (hT : TermIs rest (.ref v) (.v k)) (ho : OwnOff rest [x, dx, lo]) (hne : x ≠ dx ∧ x ≠ lo ∧ x ≠ an ∧ x ≠ at' ∧ dx ≠ lo ∧ dx ≠ an ∧ dx ≠ at' ∧ lo ≠ an ∧ lo ≠ at' ∧ an ≠ at') :
    Does 9 w mean mg mb 392 [.ref x, .ref v, .int l tl, .bool true] ((x, instObj 472 dx) :: (dx, dictOf [⟨h1, .str (Str.ofString "symbols") k1, .ref xs⟩, ⟨h2, .str (Str.ofString "operators") k2, .ref xo⟩, ⟨h3, .str (Str.ofString "quoted") k3, .bool true⟩, ⟨h4, .str (Str.ofString "ignore_ops") k4, .bool false⟩, ⟨h5, .str (Str.ofString "numbervars") k5, .bool nb⟩, ⟨h6, .str (Str.ofString "names") k6, .ref an⟩, ⟨h7, .str (Str.ofString "taken") k7, .ref at'⟩, ⟨h8, .str (Str.ofString "out") k8, .ref lo⟩, ⟨h9, .str (Str.ofString "last") k9, .str (la) ta⟩, ⟨h10, .str (Str.ofString "prefixed") k10, .bool false⟩, ⟨h11, .str (Str.ofString "work") k11, .ref lw⟩] 11) :: (lo, listOf O.toArray no) :: (an, on) :: (at', ot) :: rest)
      (fun r led => ∃ no' ta' tb, r = .none ∧ led = (x, instObj 472 dx) :: (dx, dictOf [⟨h1, .str (Str.ofString "symbols") k1, .ref xs⟩, ⟨h2, .str (Str.ofString "operators") k2, .ref xo⟩, ⟨h3, .str (Str.ofString "quoted") k3, .bool true⟩, ⟨h4, .str (Str.ofString "ignore_ops") k4, .bool false⟩, ⟨h5, .str (Str.ofString "numbervars") k5, .bool nb⟩, ⟨h6, .str (Str.ofString "names") k6, .ref an⟩, ⟨h7, .str (Str.ofString "taken") k7, .ref at'⟩, ⟨h8, .str (Str.ofString "out") k8, .ref lo⟩, ⟨h9, .str (Str.ofString "last") k9, .str (lastOf (nameT c k)) ta'⟩, ⟨h10, .str (Str.ofString "prefixed") k10, .bool false⟩, ⟨h11, .str (Str.ofString "work") k11, .ref lw⟩] 11) :: (lo, listOf (O ++ [Value.str (nameT c k) tb]).toArray no') :: (an, on) :: (at', ot) :: rest) := by
  unfold Does
  intro dp un gd cn cs fa ccd cl outer A₀ base h₀ L m s Q E B F X N Tp hk hd hu hret
  obtain ⟨hn1, hn2⟩ := name_len hs hl hk0 hk3
  have hn3 : (nameT c k).length ≤ 1000 := by omega
  have hn4 := str_ne hn1
  cases hT with
  | v hm =>
    refine wpAny_call ?_
    k_dflt cell_enter
    k_steps
    rename_i kF kN _ _
    exact hret _ _ _ _ ⟨_, _, _, rfl, rfl⟩ kF kN
set_option maxHeartbeats 8000000 in
theorem wi_spec {w : World} {mean : ExcName → Option Value} {mg mb : Str → Option Value} {rest : Led} {x dx xs xo an at' lo lw : Nat} {nb : Bool} {h1 h2 h3 h4 h5 h6 h7 h8 h9 h10 h11 : Int} {k1 k2 k3 k4 k5 k6 k7 k8 k9 k10 k11 : Tok} {la : Str} {ta : Tok} {v : Addr} {O : List Value} {no : Nat} {f l : Int} {tl : Tok}
    (hf : f ∈ Nums) (hla : la ∈ Lasts4) (hO : O.length ≤ 1000) (hT : TermIs rest (.ref v) (.i f)) (ho : OwnOff rest [x, dx, lo]) (hne : x ≠ dx ∧ x ≠ lo ∧ dx ≠ lo) :
    Does 9 w mean mg mb 392 [.ref x, .ref v, .int l tl, .bool true] ((x, instObj 472 dx) :: (dx, dictOf [⟨h1, .str (Str.ofString "symbols") k1, .ref xs⟩, ⟨h2, .str (Str.ofString "operators") k2, .ref xo⟩, ⟨h3, .str (Str.ofString "quoted") k3, .bool true⟩, ⟨h4, .str (Str.ofString "ignore_ops") k4, .bool false⟩, ⟨h5, .str (Str.ofString "numbervars") k5, .bool nb⟩, ⟨h6, .str (Str.ofString "names") k6, .ref an⟩, ⟨h7, .str (Str.ofString "taken") k7, .ref at'⟩, ⟨h8, .str (Str.ofString "out") k8, .ref lo⟩, ⟨h9, .str (Str.ofString "last") k9, .str (la) ta⟩, ⟨h10, .str (Str.ofString "prefixed") k10, .bool false⟩, ⟨h11, .str (Str.ofString "work") k11, .ref lw⟩] 11) :: (lo, listOf O.toArray no) :: rest)
      (fun r led => ∃ no' ta' tb, r = .none ∧ led = (x, instObj 472 dx) :: (dx, dictOf [⟨h1, .str (Str.ofString "symbols") k1, .ref xs⟩, ⟨h2, .str (Str.ofString "operators") k2, .ref xo⟩, ⟨h3, .str (Str.ofString "quoted") k3, .bool true⟩, ⟨h4, .str (Str.ofString "ignore_ops") k4, .bool false⟩, ⟨h5, .str (Str.ofString "numbervars") k5, .bool nb⟩, ⟨h6, .str (Str.ofString "names") k6, .ref an⟩, ⟨h7, .str (Str.ofString "taken") k7, .ref at'⟩, ⟨h8, .str (Str.ofString "out") k8, .ref lo⟩, ⟨h9, .str (Str.ofString "last") k9, .str (lastOf (numT f)) ta'⟩, ⟨h10, .str (Str.ofString "prefixed") k10, .bool false⟩, ⟨h11, .str (Str.ofString "work") k11, .ref lw⟩] 11) :: (lo, listOf (O ++ [Value.str (numT f) tb]).toArray no') :: rest) := by
  unfold Does
  intro dp un gd cn cs fa ccd cl outer A₀ base h₀ L m s Q E B F X N Tp hk hd hu hret
  have hn1 : 1 ≤ (numT f).length ∧ (numT f).length ≤ 1000 := by
    unfold Nums at hf
    simp only [List.mem_cons, List.not_mem_nil, or_false] at hf
    rcases hf with rfl | rfl | rfl | rfl | rfl | rfl | rfl <;> decide +kernel
  obtain ⟨hn1, hn3⟩ := hn1
  have hn4 := str_ne hn1
  cases hT with
  | i hm =>
    refine wpAny_call ?_
    k_dflt cell_enter
    k_steps
    rename_i kF kN _ _
    exact hret _ _ _ _ ⟨_, _, _, rfl, rfl⟩ kF kN
local macro_rules | `(tactic| walk_at "call ref") => `(tactic| (k_here; (with_unfolding_all show wpAny _ _ (call (Value.ref 320) [Value.int _ _]) _ _ _); k_dflt (refine' does_use ?B ?F ?X ?N ?T ?hk (numbered_spec ?a1) ?pk ?hd ?hu ?_; (case B => k_asm); (case F => k_asm); (case X => k_asm); (case N => k_asm); (case T => k_asm); (case hk => first | exact rfl | assumption); (case pk => exact Pk.nil); (case a1 => assumption); (case hd => ktr_room); (case hu => ktr_units)); intro r9 n9 h9 t9 p9 F9 N9; (obtain ⟨tk9, hr9, hled9⟩ := p9); (subst hr9); (subst hled9); (try dsimp only)))
set_option maxHeartbeats 8000000 in
theorem wn_spec {w : World} {mean : ExcName → Option Value} {mg mb : Str → Option Value} {rest : Led} {x dx xs xo an at' lo lw : Nat} {nb : Bool} {h1 h2 h3 h4 h5 h6 h7 h8 h9 h10 h11 : Int} {k1 k2 k3 k4 k5 k6 k7 k8 k9 k10 k11 : Tok} {la : Str} {ta : Tok} {v : Addr} {O : List Value} {no : Nat} {f l : Int} {tl : Tok}
    (hnb : nb = true) (hf : f ∈ [(0 : Int), 25, 26, 27, 700]) (hla : la ∈ Lasts4) (hO : O.length ≤ 1000) (hT : TermIs rest (.ref v) (.fn (.i f))) (ho : OwnOff rest [x, dx, lo]) (hne : x ≠ dx ∧ x ≠ lo ∧ dx ≠ lo) :
    Does 9 w mean mg mb 392 [.ref x, .ref v, .int l tl, .bool true] ((x, instObj 472 dx) :: (dx, dictOf [⟨h1, .str (Str.ofString "symbols") k1, .ref xs⟩, ⟨h2, .str (Str.ofString "operators") k2, .ref xo⟩, ⟨h3, .str (Str.ofString "quoted") k3, .bool true⟩, ⟨h4, .str (Str.ofString "ignore_ops") k4, .bool false⟩, ⟨h5, .str (Str.ofString "numbervars") k5, .bool nb⟩, ⟨h6, .str (Str.ofString "names") k6, .ref an⟩, ⟨h7, .str (Str.ofString "taken") k7, .ref at'⟩, ⟨h8, .str (Str.ofString "out") k8, .ref lo⟩, ⟨h9, .str (Str.ofString "last") k9, .str (la) ta⟩, ⟨h10, .str (Str.ofString "prefixed") k10, .bool false⟩, ⟨h11, .str (Str.ofString "work") k11, .ref lw⟩] 11) :: (lo, listOf O.toArray no) :: rest)
      (fun r led => ∃ no' ta' tb, r = .none ∧ led = (x, instObj 472 dx) :: (dx, dictOf [⟨h1, .str (Str.ofString "symbols") k1, .ref xs⟩, ⟨h2, .str (Str.ofString "operators") k2, .ref xo⟩, ⟨h3, .str (Str.ofString "quoted") k3, .bool true⟩, ⟨h4, .str (Str.ofString "ignore_ops") k4, .bool false⟩, ⟨h5, .str (Str.ofString "numbervars") k5, .bool nb⟩, ⟨h6, .str (Str.ofString "names") k6, .ref an⟩, ⟨h7, .str (Str.ofString "taken") k7, .ref at'⟩, ⟨h8, .str (Str.ofString "out") k8, .ref lo⟩, ⟨h9, .str (Str.ofString "last") k9, .str (lastOf (varT f)) ta'⟩, ⟨h10, .str (Str.ofString "prefixed") k10, .bool false⟩, ⟨h11, .str (Str.ofString "work") k11, .ref lw⟩] 11) :: (lo, listOf (O ++ [Value.str (varT f) tb]).toArray no') :: rest) := by
  unfold Does
  intro dp un gd cn cs fa ccd cl outer A₀ base h₀ L m s Q E B F X N Tp hk hd hu hret
  subst hnb
  have hn1 : 0 ≤ f ∧ 1 ≤ (varT f).length ∧ (varT f).length ≤ 1000 := by
    simp only [List.mem_cons, List.not_mem_nil, or_false] at hf
    rcases hf with rfl | rfl | rfl | rfl | rfl <;> decide +kernel
  obtain ⟨hf0, hn1, hn3⟩ := hn1
  have hn4 := str_ne hn1
  cases hT with
  | fn hm1 hm2 hT =>
    cases hT with
    | i hm3 =>
      refine wpAny_call ?_
      k_dflt cell_enter
      k_steps
      rename_i kF kN _ _
      exact hret _ _ _ _ ⟨_, _, _, rfl, rfl⟩ kF kN
end Mine
end
section
-- part E7
open PySem PySem.W PySem.Calls PyProof.Rows PyProof.V PySem.Spec
namespace Mine
local macro_rules | `(tactic| krn_off) => `(tactic| first | with_reducible assumption | exact allLt_of (by with_reducible assumption) | exact And.right (by with_reducible assumption) | exact And.right (And.right (by with_reducible assumption)) | exact And.right (And.right (And.right (by with_reducible assumption))) | exact And.right (And.right (And.right (And.right (by with_reducible assumption)))) | exact And.right (And.right (And.right (And.right (And.right (by with_reducible assumption))))) | exact And.right (And.right (And.right (And.right (And.right (And.right (by with_reducible assumption)))))) | exact And.right (And.right (And.right (And.right (And.right (And.right (And.right (by with_reducible assumption))))))) | exact And.right (And.right (And.right (And.right (And.right (And.right (And.right (And.right (by with_reducible assumption)))))))) | exact And.right (And.right (And.right (And.right (And.right (And.right (And.right (And.right (And.right (by with_reducible assumption))))))))) | exact And.right (And.right (And.right (And.right (And.right (And.right (And.right (And.right (And.right (And.right (by with_reducible assumption)))))))))) | exact And.right (And.right (And.right (And.right (And.right (And.right (And.right (And.right (And.right (And.right (And.right (by with_reducible assumption))))))))))) | exact And.right (And.right (And.right (And.right (And.right (And.right (And.right (And.right (And.right (And.right (And.right (And.right (by with_reducible assumption)))))))))))) | exact And.right (And.right (And.right (And.right (And.right (And.right (And.right (And.right (And.right (And.right (And.right (And.right (And.right (by with_reducible assumption))))))))))))) | exact And.right (And.right (And.right (And.right (And.right (And.right (And.right (And.right (And.right (And.right (And.right (And.right (And.right (And.right (by with_reducible assumption)))))))))))))) | exact And.right (And.right (And.right (And.right (And.right (And.right (And.right (And.right (And.right (And.right (And.right (And.right (And.right (And.right (And.right (by with_reducible assumption))))))))))))))) | exact And.right (And.right (And.right (And.right (And.right (And.right (And.right (And.right (And.right (And.right (And.right (And.right (And.right (And.right (And.right (And.right (by with_reducible assumption)))))))))))))))) | exact And.right (And.right (And.right (And.right (And.right (And.right (And.right (And.right (And.right (And.right (And.right (And.right (And.right (And.right (And.right (And.right (And.right (by with_reducible assumption))))))))))))))))) | exact And.right (And.right (And.right (And.right (And.right (And.right (And.right (And.right (And.right (And.right (And.right (And.right (And.right (And.right (And.right (And.right (And.right (And.right (by with_reducible assumption)))))))))))))))))) | exact And.right (And.right (And.right (And.right (And.right (And.right (And.right (And.right (And.right (And.right (And.right (And.right (And.right (And.right (And.right (And.right (And.right (And.right (And.right (by with_reducible assumption))))))))))))))))))) | exact And.right (And.right (And.right (And.right (And.right (And.right (And.right (And.right (And.right (And.right (And.right (And.right (And.right (And.right (And.right (And.right (And.right (And.right (And.right (And.right (by with_reducible assumption)))))))))))))))))))) | exact And.right (And.right (And.right (And.right (And.right (And.right (And.right (And.right (And.right (And.right (And.right (And.right (And.right (And.right (And.right (And.right (And.right (And.right (And.right (And.right (And.right (by with_reducible assumption))))))))))))))))))))) | exact And.right (And.right (And.right (And.right (And.right (And.right (And.right (And.right (And.right (And.right (And.right (And.right (And.right (And.right (And.right (And.right (And.right (And.right (And.right (And.right (And.right (And.right (by with_reducible assumption)))))))))))))))))))))) | exact And.right (And.right (And.right (And.right (And.right (And.right (And.right (And.right (And.right (And.right (And.right (And.right (And.right (And.right (And.right (And.right (And.right (And.right (And.right (And.right (And.right (And.right (And.right (by with_reducible assumption))))))))))))))))))))))) | exact And.right (And.right (And.right (And.right (And.right (And.right (And.right (And.right (And.right (And.right (And.right (And.right (And.right (And.right (And.right (And.right (And.right (And.right (And.right (And.right (And.right (And.right (And.right (And.right (by with_reducible assumption)))))))))))))))))))))))) | exact And.right (And.right (And.right (And.right (And.right (And.right (And.right (And.right (And.right (And.right (And.right (And.right (And.right (And.right (And.right (And.right (And.right (And.right (And.right (And.right (And.right (And.right (And.right (And.right (And.right (by with_reducible assumption))))))))))))))))))))))))) | fail "krn_off")
local macro_rules | `(tactic| k_all) => `(tactic| ((fail_if_success (refine List.forall_mem_cons.mpr ?_)); first | assumption | exact allLt_ne (by krn_off)))
local macro_rules | `(tactic| size_fits) => `(tactic| (simp only [List.size_toArray, PySem.sizeLine_eq]; omega))
local macro_rules | `(tactic| kbt_split) => `(tactic| first | exact Rm.head | (apply Rm.tail; kbt_split) | fail "kbt_split")
local macro_rules | `(tactic| tlg_ne) => `(tactic| first | exact off_nil | exact off_nil2 | (refine off_cons (by simp only [NeAll, and_true]; omega) ?_; tlg_ne) | exact off_sub (by assumption) (by first | (simp; done) | fail "tlg") | (refine off_lt (by krn_off) ?_; tlg_ne))
local macro_rules | `(tactic| fold_lay) => `(tactic| (refine' code_def ?k1 ?k2 ?k3 ?k4 ?k5 ?kA ?kF ?kK ?k6 ?k7 ?k8 ?k9 ?kB ?_ ?c2 ?c3 ?c4 ?c5; (case kA => exact rfl); (case kF => exact rfl); (case kK => first | exact rfl | assumption); (case k1 => k_asm); (case k2 => k_asm); (case k3 => k_asm); (case k4 => k_asm); (case k5 => k_asm); (case k6 => k_is); (case k7 => k_is); (case k8 => ktr_room); (case k9 => first | exact BindsTo.of_eq rfl | exact binds_K (by k_in) rfl (by k_is) rfl rfl rfl); (case c5 => decide); (case kB => exact locs rfl); (case c2 => exact rfl); (case c3 => exact rfl); (case c4 => exact rfl); k_whole; intro g' L' h' FG' F' N' B' X' T'; (try dsimp only); (try k_lift B'); (try k_fold)))
local macro_rules | `(tactic| walk_at "call ref") => `(tactic| (k_here; k_dflt (first
  | (refine' call_cls ?k1 ?k2 ?k3 ?k4 ?k5 ?k6 ?_; (case k1 => k_asm); (case k2 => k_asm); (case k3 => k_asm); (case k4 => k_is); (case k5 => k_is); (case k6 => k_is); k_whole; intro x' d' h' F' N' l1 l2; (try k_lt l1); (try k_lt2 l2); (try k_sweep); fold_lay)
  | (refine' call_meth ?k1 ?k2 ?_; (case k1 => k_asm); (case k2 => k_mem); k_whole; fold_lay)
  | (refine wpAny_call ?_; fold_lay))))
local macro_rules | `(tactic| ktr_units) => `(tactic| ((simp only [units_in1, units_deeper, Around.mark_units, units_make, units_ktr, cLine_is] at *); omega))
local macro_rules | `(tactic| ksw_less) => `(tactic| first | with_reducible exact sub3 | with_reducible assumption | (refine sub1 (by k_mem) ?_; ksw_less) | (refine sub2 ?_; ksw_less))
local macro_rules | `(tactic| k_mem) => `(tactic| ((fail_if_success (apply List.Mem.tail)); assumption))
local macro_rules | `(tactic| walk_at "call ref") => `(tactic| (k_here; (with_unfolding_all show wpAny _ _ (call (Value.ref 371) [Value.ref _, Value.str _ _]) _ _ _); k_dflt (refine' does_use ?B ?F ?X ?N ?T ?hk (token_spec ?a1 ?a2 ?a3 ?a4 ?a5 ?a6 ?a7) ?pk ?hd ?hu ?_; (case B => k_asm); (case F => k_asm); (case X => k_asm); (case N => k_asm); (case T => k_asm); (case hk => first | exact rfl | assumption); (case pk => (refine' Pk.cons ?q1 (Pk.cons ?q2 (Pk.cons ?q3 Pk.nil)); (case q1 => kbt_split); (case q2 => kbt_split); (case q3 => kbt_split))); (case a1 => first | assumption | (unfold Lasts4; simp; done)); (case a2 => omega); (case a3 => first | assumption | decide +kernel); (case a4 => first | assumption | decide +kernel); (case a5 => first | assumption | decide +kernel); (case a6 => tlg_ne); (case a7 => omega); (case hd => ktr_room); (case hu => ktr_units)); intro r9 n9 h9 t9 p9 F9 N9; (obtain ⟨ta9, no9, hr9, hled9⟩ := p9); (subst hr9); (subst hled9); (try dsimp only)))
local macro_rules | `(tactic| walk_at "call ref") => `(tactic| (k_here; (with_unfolding_all show wpAny _ _ (call (Value.ref 313) [Value.ref _, Value.int _ _, Value.bool _]) _ _ _); k_dflt (refine' does_use ?B ?F ?X ?N ?T ?hk (atext_spec ?a1 ?a2 ?a3 ?a4 ?a5) ?pk ?hd ?hu ?_; (case B => k_asm); (case F => k_asm); (case X => k_asm); (case N => k_asm); (case T => k_asm); (case hk => first | exact rfl | assumption); (case pk => (refine' Pk.cons ?q1 (Pk.cons ?q2 (Pk.cons ?q3 Pk.nil)); (case q1 => kbt_split); (case q2 => kbt_split); (case q3 => kbt_split))); (case a1 => assumption); (case a2 => first | assumption | decide); (case a3 => first | assumption | decide); (case a4 => assumption); (case a5 => first | exact .inl rfl | exact .inr rfl); (case hd => ktr_room); (case hu => ktr_units)); intro r9 n9 h9 t9 p9 F9 N9; (obtain ⟨tk9, hr9, hled9⟩ := p9); (subst hr9); (subst hled9); (try dsimp only)))
def NotNum (nb : Bool) (arg : Term) : Prop := nb = false ∨ (∃ f, arg = .i f ∧ f < 0) ∨ ∃ n, arg = .a n
set_option maxHeartbeats 8000000 in
theorem wa_spec {w : World} {mean : ExcName → Option Value} {mg mb : Str → Option Value} {rest : Led} {x dx xs xo an at' lo lw : Nat} {nb : Bool} {h1 h2 h3 h4 h5 h6 h7 h8 h9 h10 h11 : Int} {k1 k2 k3 k4 k5 k6 k7 k8 k9 k10 k11 : Tok} {ds bt bn bf bg nds nt : Nat} {g1 g2 g3 g4 : Int} {j1 j2 j3 j4 : Tok} {vT : List Value} {la : Str} {ta : Tok} {v : Addr} {O : List Value} {no : Nat} {n l : Int} {tl : Tok} {T : List Str}
    (hs : StrsAre vT T) (hn0 : 0 ≤ n) (hn1 : n < 100000) (hTn : T[n.toNat]? = some (Str.ofString "k")) (hla : la ∈ Lasts4) (hO : O.length ≤ 1000) (hT : TermIs rest (.ref v) (.a n)) (ho : OwnOff rest [x, dx, lo]) (hne : x ≠ dx ∧ x ≠ lo ∧ dx ≠ lo ∧ xs ≠ x ∧ xs ≠ dx ∧ xs ≠ lo ∧ ds ≠ x ∧ ds ≠ dx ∧ ds ≠ lo ∧ bt ≠ x ∧ bt ≠ dx ∧ bt ≠ lo) :
    Does 9 w mean mg mb 392 [.ref x, .ref v, .int l tl, .bool true] ((x, instObj 472 dx) :: (dx, dictOf [⟨h1, .str (Str.ofString "symbols") k1, .ref xs⟩, ⟨h2, .str (Str.ofString "operators") k2, .ref xo⟩, ⟨h3, .str (Str.ofString "quoted") k3, .bool true⟩, ⟨h4, .str (Str.ofString "ignore_ops") k4, .bool false⟩, ⟨h5, .str (Str.ofString "numbervars") k5, .bool nb⟩, ⟨h6, .str (Str.ofString "names") k6, .ref an⟩, ⟨h7, .str (Str.ofString "taken") k7, .ref at'⟩, ⟨h8, .str (Str.ofString "out") k8, .ref lo⟩, ⟨h9, .str (Str.ofString "last") k9, .str (la) ta⟩, ⟨h10, .str (Str.ofString "prefixed") k10, .bool false⟩, ⟨h11, .str (Str.ofString "work") k11, .ref lw⟩] 11) :: (lo, listOf O.toArray no) :: (xs, instObj 122 ds) :: (ds, symDict g1 g2 g3 g4 j1 j2 j3 j4 bt bn bf bg nds) :: (bt, listOf vT.toArray nt) :: rest)
      (fun r led => ∃ no' ta' tb, r = .none ∧ led = (x, instObj 472 dx) :: (dx, dictOf [⟨h1, .str (Str.ofString "symbols") k1, .ref xs⟩, ⟨h2, .str (Str.ofString "operators") k2, .ref xo⟩, ⟨h3, .str (Str.ofString "quoted") k3, .bool true⟩, ⟨h4, .str (Str.ofString "ignore_ops") k4, .bool false⟩, ⟨h5, .str (Str.ofString "numbervars") k5, .bool nb⟩, ⟨h6, .str (Str.ofString "names") k6, .ref an⟩, ⟨h7, .str (Str.ofString "taken") k7, .ref at'⟩, ⟨h8, .str (Str.ofString "out") k8, .ref lo⟩, ⟨h9, .str (Str.ofString "last") k9, .str (lastOf (atomT (Str.ofString "k"))) ta'⟩, ⟨h10, .str (Str.ofString "prefixed") k10, .bool false⟩, ⟨h11, .str (Str.ofString "work") k11, .ref lw⟩] 11) :: (lo, listOf (O ++ [Value.str (atomT (Str.ofString "k")) tb]).toArray no') :: (xs, instObj 122 ds) :: (ds, symDict g1 g2 g3 g4 j1 j2 j3 j4 bt bn bf bg nds) :: (bt, listOf vT.toArray nt) :: rest) := by
  unfold Does
  intro dp un gd cn cs fa ccd cl outer A₀ base h₀ L m s Q E B F X N Tp hk hd hu hret
  cases hT with
  | a hm =>
    refine wpAny_call ?_
    k_dflt cell_enter
    k_steps
    rename_i kF kN _ _
    exact hret _ _ _ _ ⟨_, _, _, rfl, rfl⟩ kF (cb_drop kN (by first | ksw_less | fail))
set_option maxHeartbeats 8000000 in
theorem isnum_spec {w : World} {mean : ExcName → Option Value} {mg mb : Str → Option Value} {rest r0 : Led} {x dx xs xo an at' lo lw : Nat} {nb : Bool} {h1 h2 h3 h4 h5 h6 h7 h8 h9 h10 h11 : Int} {k1 k2 k3 k4 k5 k6 k7 k8 k9 k10 k11 : Tok} {la : Str} {ta : Tok} {v : Addr} {arg : Term}
    (hN : NotNum nb arg) (hT : TermIs r0 (.ref v) (.fn arg)) (hsub : ∀ p ∈ r0, p ∈ rest) :
    Does 3 w mean mg mb 406 [.ref x, .ref v] ((x, instObj 472 dx) :: (dx, dictOf [⟨h1, .str (Str.ofString "symbols") k1, .ref xs⟩, ⟨h2, .str (Str.ofString "operators") k2, .ref xo⟩, ⟨h3, .str (Str.ofString "quoted") k3, .bool true⟩, ⟨h4, .str (Str.ofString "ignore_ops") k4, .bool false⟩, ⟨h5, .str (Str.ofString "numbervars") k5, .bool nb⟩, ⟨h6, .str (Str.ofString "names") k6, .ref an⟩, ⟨h7, .str (Str.ofString "taken") k7, .ref at'⟩, ⟨h8, .str (Str.ofString "out") k8, .ref lo⟩, ⟨h9, .str (Str.ofString "last") k9, .str (la) ta⟩, ⟨h10, .str (Str.ofString "prefixed") k10, .bool false⟩, ⟨h11, .str (Str.ofString "work") k11, .ref lw⟩] 11) :: rest)
      (fun r led => r = .bool false ∧ led = (x, instObj 472 dx) :: (dx, dictOf [⟨h1, .str (Str.ofString "symbols") k1, .ref xs⟩, ⟨h2, .str (Str.ofString "operators") k2, .ref xo⟩, ⟨h3, .str (Str.ofString "quoted") k3, .bool true⟩, ⟨h4, .str (Str.ofString "ignore_ops") k4, .bool false⟩, ⟨h5, .str (Str.ofString "numbervars") k5, .bool nb⟩, ⟨h6, .str (Str.ofString "names") k6, .ref an⟩, ⟨h7, .str (Str.ofString "taken") k7, .ref at'⟩, ⟨h8, .str (Str.ofString "out") k8, .ref lo⟩, ⟨h9, .str (Str.ofString "last") k9, .str (la) ta⟩, ⟨h10, .str (Str.ofString "prefixed") k10, .bool false⟩, ⟨h11, .str (Str.ofString "work") k11, .ref lw⟩] 11) :: rest) := by
  unfold Does
  intro dp un gd cn cs fa ccd cl outer A₀ base h₀ L m s Q E B F X N Tp hk hd hu hret
  cases hT with
  | fn hm1 hm2 hT =>
    have hm1' := hsub _ hm1
    have hm2' := hsub _ hm2
    have fin : ∀ b : Bool, b = false → Value.bool b = Value.bool false := fun b h => congrArg Value.bool h
    cases nb with
    | false =>
      refine wpAny_call ?_
      k_dflt cell_enter
      k_steps
      rename_i kF kN _ _
      exact hret _ _ _ _ ⟨rfl, rfl⟩ kF kN
    | true =>
      rcases hN with hnb | ⟨f, ha, hf⟩ | ⟨n, ha⟩
      · cases hnb
      · subst ha
        cases hT with
        | i hm3 =>
          have hm3' := hsub _ hm3
          refine wpAny_call ?_
          k_dflt cell_enter
          k_steps
          rename_i kF kN _ _
          exact hret _ _ _ _ ⟨fin _ (decide_eq_false (by omega)), rfl⟩ kF kN
      · subst ha
        cases hT with
        | a hm3 =>
          have hm3' := hsub _ hm3
          refine wpAny_call ?_
          k_dflt cell_enter
          k_steps
          rename_i kF kN _ _
          exact hret _ _ _ _ ⟨fin _ (by decide +kernel), rfl⟩ kF kN
end Mine
end
section
-- part E8
open PySem PySem.W PySem.Calls PyProof.Rows PyProof.V PySem.Spec
namespace Mine
local macro_rules | `(tactic| krn_off) => `(tactic| first | with_reducible assumption | exact allLt_of (by with_reducible assumption) | exact And.right (by with_reducible assumption) | exact And.right (And.right (by with_reducible assumption)) | exact And.right (And.right (And.right (by with_reducible assumption))) | exact And.right (And.right (And.right (And.right (by with_reducible assumption)))) | exact And.right (And.right (And.right (And.right (And.right (by with_reducible assumption))))) | exact And.right (And.right (And.right (And.right (And.right (And.right (by with_reducible assumption)))))) | exact And.right (And.right (And.right (And.right (And.right (And.right (And.right (by with_reducible assumption))))))) | exact And.right (And.right (And.right (And.right (And.right (And.right (And.right (And.right (by with_reducible assumption)))))))) | exact And.right (And.right (And.right (And.right (And.right (And.right (And.right (And.right (And.right (by with_reducible assumption))))))))) | exact And.right (And.right (And.right (And.right (And.right (And.right (And.right (And.right (And.right (And.right (by with_reducible assumption)))))))))) | exact And.right (And.right (And.right (And.right (And.right (And.right (And.right (And.right (And.right (And.right (And.right (by with_reducible assumption))))))))))) | exact And.right (And.right (And.right (And.right (And.right (And.right (And.right (And.right (And.right (And.right (And.right (And.right (by with_reducible assumption)))))))))))) | exact And.right (And.right (And.right (And.right (And.right (And.right (And.right (And.right (And.right (And.right (And.right (And.right (And.right (by with_reducible assumption))))))))))))) | exact And.right (And.right (And.right (And.right (And.right (And.right (And.right (And.right (And.right (And.right (And.right (And.right (And.right (And.right (by with_reducible assumption)))))))))))))) | exact And.right (And.right (And.right (And.right (And.right (And.right (And.right (And.right (And.right (And.right (And.right (And.right (And.right (And.right (And.right (by with_reducible assumption))))))))))))))) | exact And.right (And.right (And.right (And.right (And.right (And.right (And.right (And.right (And.right (And.right (And.right (And.right (And.right (And.right (And.right (And.right (by with_reducible assumption)))))))))))))))) | exact And.right (And.right (And.right (And.right (And.right (And.right (And.right (And.right (And.right (And.right (And.right (And.right (And.right (And.right (And.right (And.right (And.right (by with_reducible assumption))))))))))))))))) | exact And.right (And.right (And.right (And.right (And.right (And.right (And.right (And.right (And.right (And.right (And.right (And.right (And.right (And.right (And.right (And.right (And.right (And.right (by with_reducible assumption)))))))))))))))))) | exact And.right (And.right (And.right (And.right (And.right (And.right (And.right (And.right (And.right (And.right (And.right (And.right (And.right (And.right (And.right (And.right (And.right (And.right (And.right (by with_reducible assumption))))))))))))))))))) | exact And.right (And.right (And.right (And.right (And.right (And.right (And.right (And.right (And.right (And.right (And.right (And.right (And.right (And.right (And.right (And.right (And.right (And.right (And.right (And.right (by with_reducible assumption)))))))))))))))))))) | exact And.right (And.right (And.right (And.right (And.right (And.right (And.right (And.right (And.right (And.right (And.right (And.right (And.right (And.right (And.right (And.right (And.right (And.right (And.right (And.right (And.right (by with_reducible assumption))))))))))))))))))))) | exact And.right (And.right (And.right (And.right (And.right (And.right (And.right (And.right (And.right (And.right (And.right (And.right (And.right (And.right (And.right (And.right (And.right (And.right (And.right (And.right (And.right (And.right (by with_reducible assumption)))))))))))))))))))))) | exact And.right (And.right (And.right (And.right (And.right (And.right (And.right (And.right (And.right (And.right (And.right (And.right (And.right (And.right (And.right (And.right (And.right (And.right (And.right (And.right (And.right (And.right (And.right (by with_reducible assumption))))))))))))))))))))))) | exact And.right (And.right (And.right (And.right (And.right (And.right (And.right (And.right (And.right (And.right (And.right (And.right (And.right (And.right (And.right (And.right (And.right (And.right (And.right (And.right (And.right (And.right (And.right (And.right (by with_reducible assumption)))))))))))))))))))))))) | exact And.right (And.right (And.right (And.right (And.right (And.right (And.right (And.right (And.right (And.right (And.right (And.right (And.right (And.right (And.right (And.right (And.right (And.right (And.right (And.right (And.right (And.right (And.right (And.right (And.right (by with_reducible assumption))))))))))))))))))))))))) | fail "krn_off")
local macro_rules | `(tactic| k_all) => `(tactic| ((fail_if_success (refine List.forall_mem_cons.mpr ?_)); first | assumption | exact allLt_ne (by krn_off)))
local macro_rules | `(tactic| size_fits) => `(tactic| (simp only [List.size_toArray, PySem.sizeLine_eq]; omega))
local macro_rules | `(tactic| kbt_split) => `(tactic| first | exact Rm.head | (apply Rm.tail; kbt_split) | fail "kbt_split")
local macro_rules | `(tactic| tlg_ne) => `(tactic| first | exact off_nil | exact off_nil2 | (refine off_cons (by simp only [NeAll, and_true]; omega) ?_; tlg_ne) | exact off_sub (by assumption) (by first | (simp; done) | fail "tlg") | (refine off_lt (by krn_off) ?_; tlg_ne))
local macro_rules | `(tactic| fold_lay) => `(tactic| (refine' code_def ?k1 ?k2 ?k3 ?k4 ?k5 ?kA ?kF ?kK ?k6 ?k7 ?k8 ?k9 ?kB ?_ ?c2 ?c3 ?c4 ?c5; (case kA => exact rfl); (case kF => exact rfl); (case kK => first | exact rfl | assumption); (case k1 => k_asm); (case k2 => k_asm); (case k3 => k_asm); (case k4 => k_asm); (case k5 => k_asm); (case k6 => k_is); (case k7 => k_is); (case k8 => ktr_room); (case k9 => first | exact BindsTo.of_eq rfl | exact binds_K (by k_in) rfl (by k_is) rfl rfl rfl); (case c5 => decide); (case kB => exact locs rfl); (case c2 => exact rfl); (case c3 => exact rfl); (case c4 => exact rfl); k_whole; intro g' L' h' FG' F' N' B' X' T'; (try dsimp only); (try k_lift B'); (try k_fold)))
local macro_rules | `(tactic| walk_at "call ref") => `(tactic| (k_here; k_dflt (first
  | (refine' call_cls ?k1 ?k2 ?k3 ?k4 ?k5 ?k6 ?_; (case k1 => k_asm); (case k2 => k_asm); (case k3 => k_asm); (case k4 => k_is); (case k5 => k_is); (case k6 => k_is); k_whole; intro x' d' h' F' N' l1 l2; (try k_lt l1); (try k_lt2 l2); (try k_sweep); fold_lay)
  | (refine' call_meth ?k1 ?k2 ?_; (case k1 => k_asm); (case k2 => k_mem); k_whole; fold_lay)
  | (refine wpAny_call ?_; fold_lay))))
local macro_rules | `(tactic| ktr_units) => `(tactic| ((simp only [units_in1, units_deeper, Around.mark_units, units_make, units_ktr, cLine_is] at *); omega))
local macro_rules | `(tactic| ksw_less) => `(tactic| first | with_reducible exact sub3 | with_reducible assumption | (refine sub1 (by k_mem) ?_; ksw_less) | (refine sub2 ?_; ksw_less))
local macro_rules | `(tactic| k_mem) => `(tactic| ((fail_if_success (apply List.Mem.tail)); assumption))
theorem get_no {prog : Program} {w : World} {A : Around} {E : Value → Shared → Prop} {s : Shared} {h₀ : Heap} {L d : Addr} {news : Led} {o : Obj} {kvs : List (Int × Value)} {k : Int} {tk : Tok} {Q : Value → Shared → Prop} (N : News h₀ L s.heap news) (hp : (d, o) ∈ news) (hd : o.IsDictOf (PySem.intKind prog w) kvs) (lo : (d == sysModules) = false) (hl : valueAt kvs k = none) (h : Q .none { s with toks := s.toks + 1 }) :
    wpAny (model prog w) A (call (.builtin "dict.get") [.ref d, .int k tk]) Q E s := kdg_get1 N hp hd lo (intKind_is _ _ _ _) none hl h
local macro_rules | `(tactic| walk_at "call builtin:dict.get") => `(tactic| (k_here; (with_reducible show wpAny _ _ (call (Value.builtin "dict.get") [Value.ref _, Value.int _ _]) _ _ _); k_dflt (refine get_no (by k_asm) (by k_mem) (by k_asm) (by k_asm) (by first | assumption | rfl) ?_)))
local macro_rules | `(tactic| walk_at "getMethod ref") => `(tactic| (k_here; (with_reducible show wpAny _ _ (getMethod (Value.ref _) (Str.ofString "get") _) _ _ _); k_dflt (refine kdg_method (knd := PySem.intKind _ _) (by k_asm) (by k_mem) (by k_asm) ?_)))
local macro_rules | `(tactic| walk_at "subscriptTail") => `(tactic| (k_here; (with_reducible show wpAny _ _ (subscriptTail _ _ (Value.ref _) (Value.int _ _)) _ _ _); k_dflt (refine item_litK (News.isList (by k_asm) (by k_mem)) (by first | decide | assumption) (by first | decide | omega) (by assumption) ?_)))
local macro_rules | `(tactic| walk_at "call ref") => `(tactic| (k_here; (with_unfolding_all show wpAny _ _ (call (Value.ref 406) [Value.ref _, Value.ref _]) _ _ _); k_dflt (refine' does_use ?B ?F ?X ?N ?T ?hk (isnum_spec ?a1 ?a2 ?a3) ?pk ?hd ?hu ?_; (case B => k_asm); (case F => k_asm); (case X => k_asm); (case N => k_asm); (case T => k_asm); (case hk => first | exact rfl | assumption); (case pk => (refine' Pk.cons ?q1 (Pk.cons ?q2 Pk.nil); (case q1 => kbt_split); (case q2 => kbt_split))); (case a1 => assumption); (case a2 => assumption); (case a3 => ksw_less); (case hd => ktr_room); (case hu => ktr_units)); intro r9 n9 h9 t9 p9 F9 N9; (obtain ⟨hr9, hled9⟩ := p9); (subst hr9); (subst hled9); (try dsimp only)))
set_option maxHeartbeats 8000000 in
theorem shape_spec {w : World} {mean : ExcName → Option Value} {mg mb : Str → Option Value} {rest r0 : Led} {x dx xs xo an at' lo lw : Nat} {nb : Bool} {h1 h2 h3 h4 h5 h6 h7 h8 h9 h10 h11 : Int} {k1 k2 k3 k4 k5 k6 k7 k8 k9 k10 k11 : Tok} {ds bt bn bf bg nds nt nf k17 : Nat} {g1 g2 g3 g4 : Int} {j1 j2 j3 j4 : Tok} {vT Fs : List Value} {tf1 tf2 : Tok} {dy bp bi bq ndy : Nat} {f1 f2 f3 f4 : Int} {m1 m2 m3 m4 : Tok} {op oq : Obj} {kp : List (Int × Value)} {la : Str} {ta : Tok} {v : Addr} {arg : Term}
    (hF : Fs[17]? = some (.ref k17)) (hop : op.IsDictOf (PySem.intKind P0 w) kp) (h26 : valueAt kp 26 = none) (hoq : oq.IsDictOf (PySem.intKind P0 w) []) (hbp : (bp == sysModules) = false) (hbq : (bq == sysModules) = false)
    (hN : NotNum nb arg) (hT : TermIs r0 (.ref v) (.fn arg)) (hsub : ∀ p ∈ r0, p ∈ rest) :
    Does 9 w mean mg mb 434 [.ref x, .ref v] ((x, instObj 472 dx) :: (dx, dictOf [⟨h1, .str (Str.ofString "symbols") k1, .ref xs⟩, ⟨h2, .str (Str.ofString "operators") k2, .ref xo⟩, ⟨h3, .str (Str.ofString "quoted") k3, .bool true⟩, ⟨h4, .str (Str.ofString "ignore_ops") k4, .bool false⟩, ⟨h5, .str (Str.ofString "numbervars") k5, .bool nb⟩, ⟨h6, .str (Str.ofString "names") k6, .ref an⟩, ⟨h7, .str (Str.ofString "taken") k7, .ref at'⟩, ⟨h8, .str (Str.ofString "out") k8, .ref lo⟩, ⟨h9, .str (Str.ofString "last") k9, .str (la) ta⟩, ⟨h10, .str (Str.ofString "prefixed") k10, .bool false⟩, ⟨h11, .str (Str.ofString "work") k11, .ref lw⟩] 11) :: (xs, instObj 122 ds) :: (ds, symDict g1 g2 g3 g4 j1 j2 j3 j4 bt bn bf bg nds) :: (bt, listOf vT.toArray nt) :: (bf, listOf Fs.toArray nf) :: (k17, tupO [.int 26 tf1, .int 1 tf2]) :: (xo, instObj 287 dy) :: (dy, opsDict f1 f2 f3 f4 m1 m2 m3 m4 xs bp bi bq ndy) :: (bp, op) :: (bq, oq) :: rest)
      (fun r led => r = .none ∧ led = (x, instObj 472 dx) :: (dx, dictOf [⟨h1, .str (Str.ofString "symbols") k1, .ref xs⟩, ⟨h2, .str (Str.ofString "operators") k2, .ref xo⟩, ⟨h3, .str (Str.ofString "quoted") k3, .bool true⟩, ⟨h4, .str (Str.ofString "ignore_ops") k4, .bool false⟩, ⟨h5, .str (Str.ofString "numbervars") k5, .bool nb⟩, ⟨h6, .str (Str.ofString "names") k6, .ref an⟩, ⟨h7, .str (Str.ofString "taken") k7, .ref at'⟩, ⟨h8, .str (Str.ofString "out") k8, .ref lo⟩, ⟨h9, .str (Str.ofString "last") k9, .str (la) ta⟩, ⟨h10, .str (Str.ofString "prefixed") k10, .bool false⟩, ⟨h11, .str (Str.ofString "work") k11, .ref lw⟩] 11) :: (xs, instObj 122 ds) :: (ds, symDict g1 g2 g3 g4 j1 j2 j3 j4 bt bn bf bg nds) :: (bt, listOf vT.toArray nt) :: (bf, listOf Fs.toArray nf) :: (k17, tupO [.int 26 tf1, .int 1 tf2]) :: (xo, instObj 287 dy) :: (dy, opsDict f1 f2 f3 f4 m1 m2 m3 m4 xs bp bi bq ndy) :: (bp, op) :: (bq, oq) :: rest) := by
  unfold Does
  intro dp un gd cn cs fa ccd cl outer A₀ base h₀ L m s Q E B F X N Tp hk hd hu hret
  have hT0 := hT
  cases hT with
  | fn hm1 hm2 hT =>
    have hm1' := hsub _ hm1
    have hm2' := hsub _ hm2
    refine wpAny_call ?_
    k_dflt cell_enter
    k_steps
    rename_i kF kN _ _
    exact hret _ _ _ _ ⟨rfl, rfl⟩ kF (cb_drop kN (by first | ksw_less | fail))
end Mine
end
section
-- part E9
open PySem PySem.W PySem.Calls PyProof.Rows PyProof.V PySem.Spec
namespace Mine
local macro_rules | `(tactic| krn_off) => `(tactic| first | with_reducible assumption | exact allLt_of (by with_reducible assumption) | exact And.right (by with_reducible assumption) | exact And.right (And.right (by with_reducible assumption)) | exact And.right (And.right (And.right (by with_reducible assumption))) | exact And.right (And.right (And.right (And.right (by with_reducible assumption)))) | exact And.right (And.right (And.right (And.right (And.right (by with_reducible assumption))))) | exact And.right (And.right (And.right (And.right (And.right (And.right (by with_reducible assumption)))))) | exact And.right (And.right (And.right (And.right (And.right (And.right (And.right (by with_reducible assumption))))))) | exact And.right (And.right (And.right (And.right (And.right (And.right (And.right (And.right (by with_reducible assumption)))))))) | exact And.right (And.right (And.right (And.right (And.right (And.right (And.right (And.right (And.right (by with_reducible assumption))))))))) | exact And.right (And.right (And.right (And.right (And.right (And.right (And.right (And.right (And.right (And.right (by with_reducible assumption)))))))))) | exact And.right (And.right (And.right (And.right (And.right (And.right (And.right (And.right (And.right (And.right (And.right (by with_reducible assumption))))))))))) | exact And.right (And.right (And.right (And.right (And.right (And.right (And.right (And.right (And.right (And.right (And.right (And.right (by with_reducible assumption)))))))))))) | exact And.right (And.right (And.right (And.right (And.right (And.right (And.right (And.right (And.right (And.right (And.right (And.right (And.right (by with_reducible assumption))))))))))))) | exact And.right (And.right (And.right (And.right (And.right (And.right (And.right (And.right (And.right (And.right (And.right (And.right (And.right (And.right (by with_reducible assumption)))))))))))))) | exact And.right (And.right (And.right (And.right (And.right (And.right (And.right (And.right (And.right (And.right (And.right (And.right (And.right (And.right (And.right (by with_reducible assumption))))))))))))))) | exact And.right (And.right (And.right (And.right (And.right (And.right (And.right (And.right (And.right (And.right (And.right (And.right (And.right (And.right (And.right (And.right (by with_reducible assumption)))))))))))))))) | exact And.right (And.right (And.right (And.right (And.right (And.right (And.right (And.right (And.right (And.right (And.right (And.right (And.right (And.right (And.right (And.right (And.right (by with_reducible assumption))))))))))))))))) | exact And.right (And.right (And.right (And.right (And.right (And.right (And.right (And.right (And.right (And.right (And.right (And.right (And.right (And.right (And.right (And.right (And.right (And.right (by with_reducible assumption)))))))))))))))))) | exact And.right (And.right (And.right (And.right (And.right (And.right (And.right (And.right (And.right (And.right (And.right (And.right (And.right (And.right (And.right (And.right (And.right (And.right (And.right (by with_reducible assumption))))))))))))))))))) | exact And.right (And.right (And.right (And.right (And.right (And.right (And.right (And.right (And.right (And.right (And.right (And.right (And.right (And.right (And.right (And.right (And.right (And.right (And.right (And.right (by with_reducible assumption)))))))))))))))))))) | exact And.right (And.right (And.right (And.right (And.right (And.right (And.right (And.right (And.right (And.right (And.right (And.right (And.right (And.right (And.right (And.right (And.right (And.right (And.right (And.right (And.right (by with_reducible assumption))))))))))))))))))))) | exact And.right (And.right (And.right (And.right (And.right (And.right (And.right (And.right (And.right (And.right (And.right (And.right (And.right (And.right (And.right (And.right (And.right (And.right (And.right (And.right (And.right (And.right (by with_reducible assumption)))))))))))))))))))))) | exact And.right (And.right (And.right (And.right (And.right (And.right (And.right (And.right (And.right (And.right (And.right (And.right (And.right (And.right (And.right (And.right (And.right (And.right (And.right (And.right (And.right (And.right (And.right (by with_reducible assumption))))))))))))))))))))))) | exact And.right (And.right (And.right (And.right (And.right (And.right (And.right (And.right (And.right (And.right (And.right (And.right (And.right (And.right (And.right (And.right (And.right (And.right (And.right (And.right (And.right (And.right (And.right (And.right (by with_reducible assumption)))))))))))))))))))))))) | exact And.right (And.right (And.right (And.right (And.right (And.right (And.right (And.right (And.right (And.right (And.right (And.right (And.right (And.right (And.right (And.right (And.right (And.right (And.right (And.right (And.right (And.right (And.right (And.right (And.right (by with_reducible assumption))))))))))))))))))))))))) | fail "krn_off")
local macro_rules | `(tactic| k_all) => `(tactic| ((fail_if_success (refine List.forall_mem_cons.mpr ?_)); first | assumption | exact allLt_ne (by krn_off)))
local macro_rules | `(tactic| size_fits) => `(tactic| (simp only [List.size_toArray, PySem.sizeLine_eq]; omega))
local macro_rules | `(tactic| kbt_split) => `(tactic| first | exact Rm.head | (apply Rm.tail; kbt_split) | fail "kbt_split")
local macro_rules | `(tactic| tlg_ne) => `(tactic| first | exact off_nil | exact off_nil2 | (refine off_cons (by simp only [NeAll, and_true]; omega) ?_; tlg_ne) | exact off_sub (by assumption) (by first | (simp; done) | fail "tlg") | (refine off_lt (by krn_off) ?_; tlg_ne))
local macro_rules | `(tactic| fold_lay) => `(tactic| (refine' code_def ?k1 ?k2 ?k3 ?k4 ?k5 ?kA ?kF ?kK ?k6 ?k7 ?k8 ?k9 ?kB ?_ ?c2 ?c3 ?c4 ?c5; (case kA => exact rfl); (case kF => exact rfl); (case kK => first | exact rfl | assumption); (case k1 => k_asm); (case k2 => k_asm); (case k3 => k_asm); (case k4 => k_asm); (case k5 => k_asm); (case k6 => k_is); (case k7 => k_is); (case k8 => ktr_room); (case k9 => first | exact BindsTo.of_eq rfl | exact binds_K (by k_in) rfl (by k_is) rfl rfl rfl); (case c5 => decide); (case kB => exact locs rfl); (case c2 => exact rfl); (case c3 => exact rfl); (case c4 => exact rfl); k_whole; intro g' L' h' FG' F' N' B' X' T'; (try dsimp only); (try k_lift B'); (try k_fold)))
local macro_rules | `(tactic| walk_at "call ref") => `(tactic| (k_here; k_dflt (first
  | (refine' call_cls ?k1 ?k2 ?k3 ?k4 ?k5 ?k6 ?_; (case k1 => k_asm); (case k2 => k_asm); (case k3 => k_asm); (case k4 => k_is); (case k5 => k_is); (case k6 => k_is); k_whole; intro x' d' h' F' N' l1 l2; (try k_lt l1); (try k_lt2 l2); (try k_sweep); fold_lay)
  | (refine' call_meth ?k1 ?k2 ?_; (case k1 => k_asm); (case k2 => k_mem); k_whole; fold_lay)
  | (refine wpAny_call ?_; fold_lay))))
local macro_rules | `(tactic| ktr_units) => `(tactic| ((simp only [units_in1, units_deeper, Around.mark_units, units_make, units_ktr, cLine_is] at *); omega))
local macro_rules | `(tactic| ksw_less) => `(tactic| first | with_reducible exact sub3 | with_reducible assumption | (refine sub1 (by k_mem) ?_; ksw_less) | (refine sub2 ?_; ksw_less))
local macro_rules | `(tactic| k_mem) => `(tactic| ((fail_if_success (apply List.Mem.tail)); assumption))
local macro_rules | `(tactic| walk_at "subscriptTail") => `(tactic| (k_here; (with_reducible show wpAny _ _ (subscriptTail _ _ (Value.ref _) (Value.int _ _)) _ _ _); k_dflt (refine item_litK (News.isList (by k_asm) (by k_mem)) (by first | decide | assumption) (by first | decide | omega) (by assumption) ?_)))
local macro_rules | `(tactic| walk_at "call ref") => `(tactic| (k_here; (with_unfolding_all show wpAny _ _ (call (Value.ref 406) [Value.ref _, Value.ref _]) _ _ _); k_dflt (refine' does_use ?B ?F ?X ?N ?T ?hk (isnum_spec ?a1 ?a2 ?a3) ?pk ?hd ?hu ?_; (case B => k_asm); (case F => k_asm); (case X => k_asm); (case N => k_asm); (case T => k_asm); (case hk => first | exact rfl | assumption); (case pk => (refine' Pk.cons ?q1 (Pk.cons ?q2 Pk.nil); (case q1 => kbt_split); (case q2 => kbt_split))); (case a1 => assumption); (case a2 => assumption); (case a3 => ksw_less); (case hd => ktr_room); (case hu => ktr_units)); intro r9 n9 h9 t9 p9 F9 N9; (obtain ⟨hr9, hled9⟩ := p9); (subst hr9); (subst hled9); (try dsimp only)))
local macro_rules | `(tactic| walk_at "call ref") => `(tactic| (k_here; (with_unfolding_all show wpAny _ _ (call (Value.ref 371) [Value.ref _, Value.str _ _]) _ _ _); k_dflt (refine' does_use ?B ?F ?X ?N ?T ?hk (token_spec ?a1 ?a2 ?a3 ?a4 ?a5 ?a6 ?a7) ?pk ?hd ?hu ?_; (case B => k_asm); (case F => k_asm); (case X => k_asm); (case N => k_asm); (case T => k_asm); (case hk => first | exact rfl | assumption); (case pk => (refine' Pk.cons ?q1 (Pk.cons ?q2 (Pk.cons ?q3 Pk.nil)); (case q1 => kbt_split); (case q2 => kbt_split); (case q3 => kbt_split))); (case a1 => first | assumption | (unfold Lasts4; simp; done)); (case a2 => omega); (case a3 => first | assumption | decide +kernel); (case a4 => first | assumption | decide +kernel); (case a5 => first | assumption | decide +kernel); (case a6 => tlg_ne); (case a7 => omega); (case hd => ktr_room); (case hu => ktr_units)); intro r9 n9 h9 t9 p9 F9 N9; (obtain ⟨ta9, no9, hr9, hled9⟩ := p9); (subst hr9); (subst hled9); (try dsimp only)))
local macro_rules | `(tactic| walk_at "call ref") => `(tactic| (k_here; (with_unfolding_all show wpAny _ _ (call (Value.ref 313) [Value.ref _, Value.int _ _, Value.bool _]) _ _ _); k_dflt (refine' does_use ?B ?F ?X ?N ?T ?hk (atext_spec ?a1 ?a2 ?a3 ?a4 ?a5) ?pk ?hd ?hu ?_; (case B => k_asm); (case F => k_asm); (case X => k_asm); (case N => k_asm); (case T => k_asm); (case hk => first | exact rfl | assumption); (case pk => (refine' Pk.cons ?q1 (Pk.cons ?q2 (Pk.cons ?q3 Pk.nil)); (case q1 => kbt_split); (case q2 => kbt_split); (case q3 => kbt_split))); (case a1 => assumption); (case a2 => first | assumption | decide); (case a3 => first | assumption | decide); (case a4 => assumption); (case a5 => first | exact .inl rfl | exact .inr rfl); (case hd => ktr_room); (case hu => ktr_units)); intro r9 n9 h9 t9 p9 F9 N9; (obtain ⟨tk9, hr9, hled9⟩ := p9); (subst hr9); (subst hled9); (try dsimp only)))
local macro_rules | `(tactic| walk_at "call ref") => `(tactic| (k_here; (with_unfolding_all show wpAny _ _ (call (Value.ref 385) [Value.ref _, Value.ref _]) _ _ _); k_dflt (refine' does_use ?B ?F ?X ?N ?T ?hk (later_spec ?a1 ?a2 ?a3 ?a4) ?pk ?hd ?hu ?_; (case B => k_asm); (case F => k_asm); (case X => k_asm); (case N => k_asm); (case T => k_asm); (case hk => first | exact rfl | assumption); (case pk => (refine' Pk.cons ?q1 (Pk.cons ?q2 (Pk.cons ?q3 (Pk.cons ?q4 Pk.nil))); (case q1 => kbt_split); (case q2 => kbt_split); (case q3 => kbt_split); (case q4 => kbt_split))); (case a1 => omega); (case a2 => first | omega | exact Nat.le_of_ble_eq_true rfl); (case a3 => tlg_ne); (case a4 => omega); (case hd => ktr_room); (case hu => ktr_units)); intro r9 n9 h9 t9 p9 F9 N9; (obtain ⟨no9, hr9, hled9⟩ := p9); (subst hr9); (subst hled9); (try dsimp only)))
local macro_rules | `(tactic| walk_at "call ref") => `(tactic| (k_here; (with_unfolding_all show wpAny _ _ (call (Value.ref 434) [Value.ref _, Value.ref _]) _ _ _); k_dflt (refine' does_use ?B ?F ?X ?N ?T ?hk (shape_spec ?a1 ?a2 ?a3 ?a4 ?a5 ?a6 ?a7 ?a8 ?a9) ?pk ?hd ?hu ?_; (case B => k_asm); (case F => k_asm); (case X => k_asm); (case N => k_asm); (case T => k_asm); (case hk => first | exact rfl | assumption); (case pk => (refine' Pk.cons ?q1 (Pk.cons ?q2 (Pk.cons ?q3 (Pk.cons ?q4 (Pk.cons ?q5 (Pk.cons ?q6 (Pk.cons ?q7 (Pk.cons ?q8 (Pk.cons ?q9 (Pk.cons ?q10 (Pk.cons ?q11 Pk.nil)))))))))); (case q1 => kbt_split); (case q2 => kbt_split); (case q3 => kbt_split); (case q4 => kbt_split); (case q5 => kbt_split); (case q6 => kbt_split); (case q7 => kbt_split); (case q8 => kbt_split); (case q9 => kbt_split); (case q10 => kbt_split); (case q11 => kbt_split))); (case a1 => assumption); (case a2 => assumption); (case a3 => assumption); (case a4 => assumption); (case a5 => assumption); (case a6 => assumption); (case a7 => assumption); (case a8 => assumption); (case a9 => ksw_less); (case hd => ktr_room); (case hu => ktr_units)); intro r9 n9 h9 t9 p9 F9 N9; (obtain ⟨hr9, hled9⟩ := p9); (subst hr9); (subst hled9); (try dsimp only)))
section
variable {prog : Program} {w : World} {A : Around} {E : Value → Shared → Prop} {s : Shared} {env : Env} {h₀ : Heap} {target : Expr} {body : List Stmt} {Q : Flow → Shared → Prop}
theorem rest_cons {I : Addr} {cls : String} {lp : Addr × Obj} {v : Value} {r : List Value} {m : Str → Option Value} {nx : Led}
    (turn : ∀ h tk it, it.cls = .type cls → Fr h₀ env.locals h m → News h₀ env.locals h ((I, it) :: nx) →
      wpAny (model prog w) A (assign target env v) (fun _ s₂ => wpAny (model prog w) A (execs body env) (UnrPostW h₀ env.locals { s with heap := h, toks := tk } [(I, it)] (fun m' n' => SubL [lp] n' ∧ Rest prog w A E h₀ env target body Q s I cls lp r m' n') Q) E s₂) E { s with heap := h, toks := tk }) :
    Rest prog w A E h₀ env target body Q s I cls lp (v :: r) m nx := by
  intro u h tk e F
  have e' : u = v := e
  subst e'
  exact AllObj.cons fun it hc => AllObj.nil fun N => turn h tk it hc F N
theorem turn_out {L I : Addr} {it : Obj} {rest : (Str → Option Value) → Led → Prop} {s₁ : Shared} {h' : Heap} {tk : Nat} {m' : Str → Option Value} {all news' : Led} (F : Fr h₀ L h' m') (N : News h₀ L h' all)
    (hR : Rm (I, it) all news') (off : ∀ p ∈ news', p.1 ≠ I) (r : rest m' news') : UnrEndW h₀ L s₁ [(I, it)] rest { s₁ with heap := h', toks := tk } := turn_end news' F N (fun p hp => hR.mem p hp) off r
theorem rest_nil {I : Addr} {cls : String} {lp : Addr × Obj} {m : Str → Option Value} {nx : Led} (k : ∀ h tk, Fr h₀ env.locals h m → News h₀ env.locals h nx → Q .next { s with heap := h, toks := tk }) : Rest prog w A E h₀ env target body Q s I cls lp [] m nx := k
end
theorem news_dup {h₀ h : Heap} {L : Addr} {led : Led} {p : Addr × Obj} (N : News h₀ L h led) (hp : p ∈ led) : News h₀ L h (p :: led) := fun q hq => by
  rcases List.mem_cons.mp hq with rfl | hq
  · exact N _ hp
  · exact N _ hq
local macro_rules | `(tactic| walk_at "exec For Name Subscript cons nil") => `(tactic| (k_here; (rename Fr _ _ _ _ => lF'); (with_unfolding_all refine' For_turns lF' ?_; k_whole)))
local macro_rules | `(tactic| walk_at "pyIter ref") => `(tactic| (k_here; (with_reducible show wpAny _ _ (pyIter (Value.ref _)) (fun it s₂ => TurnsAt _ _ _ _ _ _ _ _ _ it s₂) _ _); (rename Fr _ _ _ _ => lF'); (rename News _ _ _ _ => lN'); (with_unfolding_all refine iter_tup2 (by rfl) lF' lN' (by k_mem) ?_); clear lF' lN'; intro i' l1; (try k_lt l1)))
set_option maxHeartbeats 8000000 in
theorem wf_spec {w : World} {mean : ExcName → Option Value} {mg mb : Str → Option Value} {rest r0 : Led} {x dx xs xo an at' lo lw : Nat} {nb : Bool} {h1 h2 h3 h4 h5 h6 h7 h8 h9 h10 h11 : Int} {k1 k2 k3 k4 k5 k6 k7 k8 k9 k10 k11 : Tok} {ds bt bn bf bg nds nt nf k17 : Nat} {g1 g2 g3 g4 : Int} {j1 j2 j3 j4 : Tok} {vT Fs : List Value} {tf1 tf2 : Tok} {dy bp bi bq ndy : Nat} {f1 f2 f3 f4 : Int} {m1 m2 m3 m4 : Tok} {op oq : Obj} {kp : List (Int × Value)} {la : Str} {ta : Tok} {v : Addr} {arg : Term} {O W : List Value} {no n : Nat} {l : Int} {tl : Tok} {T : List Str}
    (hs : StrsAre vT T) (hTok : T[26]? = some (Str.ofString "$VAR")) (hF : Fs[17]? = some (.ref k17)) (hop : op.IsDictOf (PySem.intKind P0 w) kp) (h26 : valueAt kp 26 = none) (hoq : oq.IsDictOf (PySem.intKind P0 w) []) (hbp : (bp == sysModules) = false) (hbq : (bq == sysModules) = false)
    (hN : NotNum nb arg) (hT : TermIs r0 (.ref v) (.fn arg)) (hsub : ∀ p ∈ r0, p ∈ rest) (hla : la ∈ Lasts4) (hO : O.length ≤ 1000) (hW : W.length ≤ 1000)
    (ho : OwnOff rest [x, dx, lo, lw]) (hso : xs < dx ∧ ds < dx ∧ bt < dx ∧ bf < dx ∧ k17 < dx ∧ xo < dx ∧ dy < dx ∧ bp < dx ∧ bq < dx ∧ dx < x ∧ x < lo ∧ lo < lw) :
    Does 12 w mean mg mb 392 [.ref x, .ref v, .int l tl, .bool true] ((x, instObj 472 dx) :: (dx, dictOf [⟨h1, .str (Str.ofString "symbols") k1, .ref xs⟩, ⟨h2, .str (Str.ofString "operators") k2, .ref xo⟩, ⟨h3, .str (Str.ofString "quoted") k3, .bool true⟩, ⟨h4, .str (Str.ofString "ignore_ops") k4, .bool false⟩, ⟨h5, .str (Str.ofString "numbervars") k5, .bool nb⟩, ⟨h6, .str (Str.ofString "names") k6, .ref an⟩, ⟨h7, .str (Str.ofString "taken") k7, .ref at'⟩, ⟨h8, .str (Str.ofString "out") k8, .ref lo⟩, ⟨h9, .str (Str.ofString "last") k9, .str (la) ta⟩, ⟨h10, .str (Str.ofString "prefixed") k10, .bool false⟩, ⟨h11, .str (Str.ofString "work") k11, .ref lw⟩] 11) :: (lo, listOf O.toArray no) :: (lw, listOf W.toArray n) :: (xs, instObj 122 ds) :: (ds, symDict g1 g2 g3 g4 j1 j2 j3 j4 bt bn bf bg nds) :: (bt, listOf vT.toArray nt) :: (bf, listOf Fs.toArray nf) :: (k17, tupO [.int 26 tf1, .int 1 tf2]) :: (xo, instObj 287 dy) :: (dy, opsDict f1 f2 f3 f4 m1 m2 m3 m4 xs bp bi bq ndy) :: (bp, op) :: (bq, oq) :: rest)
      (fun r led => ∃ R n' no' ta' tb rl, r = .none ∧ TasksAre (rl ++ r0) R [.raw (Str.ofString "("), .term arg, .raw (Str.ofString ")")] ∧ OwnOff rl [x, dx, lo, lw] ∧ Above rl ((xs, instObj 122 ds) :: (ds, symDict g1 g2 g3 g4 j1 j2 j3 j4 bt bn bf bg nds) :: (bt, listOf vT.toArray nt) :: (bf, listOf Fs.toArray nf) :: (k17, tupO [.int 26 tf1, .int 1 tf2]) :: (xo, instObj 287 dy) :: (dy, opsDict f1 f2 f3 f4 m1 m2 m3 m4 xs bp bi bq ndy) :: (bp, op) :: (bq, oq) :: rest) ∧
        led = (x, instObj 472 dx) :: (dx, dictOf [⟨h1, .str (Str.ofString "symbols") k1, .ref xs⟩, ⟨h2, .str (Str.ofString "operators") k2, .ref xo⟩, ⟨h3, .str (Str.ofString "quoted") k3, .bool true⟩, ⟨h4, .str (Str.ofString "ignore_ops") k4, .bool false⟩, ⟨h5, .str (Str.ofString "numbervars") k5, .bool nb⟩, ⟨h6, .str (Str.ofString "names") k6, .ref an⟩, ⟨h7, .str (Str.ofString "taken") k7, .ref at'⟩, ⟨h8, .str (Str.ofString "out") k8, .ref lo⟩, ⟨h9, .str (Str.ofString "last") k9, .str (lastOf (atomT (Str.ofString "$VAR"))) ta'⟩, ⟨h10, .str (Str.ofString "prefixed") k10, .bool false⟩, ⟨h11, .str (Str.ofString "work") k11, .ref lw⟩] 11) :: (lo, listOf (O ++ [Value.str (atomT (Str.ofString "$VAR")) tb]).toArray no') :: (lw, listOf (W ++ R.reverse).toArray n') :: (xs, instObj 122 ds) :: (ds, symDict g1 g2 g3 g4 j1 j2 j3 j4 bt bn bf bg nds) :: (bt, listOf vT.toArray nt) :: (bf, listOf Fs.toArray nf) :: (k17, tupO [.int 26 tf1, .int 1 tf2]) :: (xo, instObj 287 dy) :: (dy, opsDict f1 f2 f3 f4 m1 m2 m3 m4 xs bp bi bq ndy) :: (bp, op) :: (bq, oq) :: (rl ++ rest)) := by
  unfold Does
  intro dp un gd cn cs fa ccd cl outer A₀ base h₀ L m s Q E B F X N Tp hk hd hu hret
  have hT0 := hT
  cases hT with
  | @fn a b y _ t u hm1 hm2 hT =>
    have hm1' := hsub _ hm1
    have hm2' := hsub _ hm2
    have hb := ho _ hm2'
    have hb1 : @Ne Nat b x := hb x (.head _)
    have hb2 : @Ne Nat b dx := hb dx (.tail _ (.head _))
    have hb3 : @Ne Nat b lo := hb lo (.tail _ (.tail _ (.head _)))
    have hb4 : @Ne Nat b lw := hb lw (.tail _ (.tail _ (.tail _ (.head _))))
    replace N := news_dup (p := (b, tupO [y])) N (by (repeat (first | exact hm2' | apply List.Mem.tail)))
    refine wpAny_call ?_
    k_dflt cell_enter
    k_steps
    rename_i ta9 no9 lr _ q1 _ I q2
    have hor : OwnOff rest [lr, x, dx, lo, lw] := off_lt (by krn_off) ho
    refine rest_cons (fun h tk it hic F N => ?_)
    k_steps
    rename_i D1 _ l1 _ _ D2 _ l2 _ lF lN
    refine turn_out lF lN (by first | kbt_split | fail) ?off ⟨⟨?mem, trivial⟩, rest_nil fun h tk F N => ?_⟩
    case off => first | k_all | fail
    case mem => first | k_mem | fail
    k_steps
    rename_i D3 _ l3 _ _ _ _ _ _ no7 _ _ _ _ _ kF kN _ _
    try simp only [List.concat_eq_append, List.nil_append, List.cons_append, List.toList_toArray, List.push_toArray] at kN
    refine hret _ _ _ _ ⟨[.ref D1, .ref D2, .ref D3], _, no9, ta9, _, [(D1, _), (D2, _), (D3, _)], rfl, .cons (.raw (.head _)) (.cons (.term (.tail _ (.head _)) (hT.mono fun p hp => .tail _ (.tail _ (.tail _ hp)))) (.cons (.raw (.tail _ (.tail _ (.head _)))) .nil)), ?o1, ?o2, rfl⟩ kF (cb_drop kN (by (repeat (refine sub1 (by first | k_mem | fail) ?_)); intro p hp; (repeat (first | exact hp | apply List.Mem.tail))))
    case o1 => exact off_cons (by simp only [NeAll, and_true]; omega) (off_cons (by simp only [NeAll, and_true]; omega) (off_cons (by simp only [NeAll, and_true]; omega) off_nil))
    case o2 =>
      refine above_cons ?_ (above_cons ?_ (above_cons ?_ True.intro))
      all_goals (refine ⟨?_, ?_, ?_, ?_, ?_, ?_, ?_, ?_, ?_, by first | krn_off | fail⟩ <;> (dsimp only; omega))
end Mine
end
section
-- part E10
open PySem PySem.W PySem.Calls PyProof.Rows PyProof.V PySem.Spec
namespace Mine
local macro_rules | `(tactic| krn_off) => `(tactic| first | with_reducible assumption | exact allLt_of (by with_reducible assumption) | exact And.right (by with_reducible assumption) | exact And.right (And.right (by with_reducible assumption)) | exact And.right (And.right (And.right (by with_reducible assumption))) | exact And.right (And.right (And.right (And.right (by with_reducible assumption)))) | exact And.right (And.right (And.right (And.right (And.right (by with_reducible assumption))))) | exact And.right (And.right (And.right (And.right (And.right (And.right (by with_reducible assumption)))))) | exact And.right (And.right (And.right (And.right (And.right (And.right (And.right (by with_reducible assumption))))))) | exact And.right (And.right (And.right (And.right (And.right (And.right (And.right (And.right (by with_reducible assumption)))))))) | exact And.right (And.right (And.right (And.right (And.right (And.right (And.right (And.right (And.right (by with_reducible assumption))))))))) | exact And.right (And.right (And.right (And.right (And.right (And.right (And.right (And.right (And.right (And.right (by with_reducible assumption)))))))))) | exact And.right (And.right (And.right (And.right (And.right (And.right (And.right (And.right (And.right (And.right (And.right (by with_reducible assumption))))))))))) | exact And.right (And.right (And.right (And.right (And.right (And.right (And.right (And.right (And.right (And.right (And.right (And.right (by with_reducible assumption)))))))))))) | exact And.right (And.right (And.right (And.right (And.right (And.right (And.right (And.right (And.right (And.right (And.right (And.right (And.right (by with_reducible assumption))))))))))))) | exact And.right (And.right (And.right (And.right (And.right (And.right (And.right (And.right (And.right (And.right (And.right (And.right (And.right (And.right (by with_reducible assumption)))))))))))))) | exact And.right (And.right (And.right (And.right (And.right (And.right (And.right (And.right (And.right (And.right (And.right (And.right (And.right (And.right (And.right (by with_reducible assumption))))))))))))))) | exact And.right (And.right (And.right (And.right (And.right (And.right (And.right (And.right (And.right (And.right (And.right (And.right (And.right (And.right (And.right (And.right (by with_reducible assumption)))))))))))))))) | exact And.right (And.right (And.right (And.right (And.right (And.right (And.right (And.right (And.right (And.right (And.right (And.right (And.right (And.right (And.right (And.right (And.right (by with_reducible assumption))))))))))))))))) | exact And.right (And.right (And.right (And.right (And.right (And.right (And.right (And.right (And.right (And.right (And.right (And.right (And.right (And.right (And.right (And.right (And.right (And.right (by with_reducible assumption)))))))))))))))))) | exact And.right (And.right (And.right (And.right (And.right (And.right (And.right (And.right (And.right (And.right (And.right (And.right (And.right (And.right (And.right (And.right (And.right (And.right (And.right (by with_reducible assumption))))))))))))))))))) | exact And.right (And.right (And.right (And.right (And.right (And.right (And.right (And.right (And.right (And.right (And.right (And.right (And.right (And.right (And.right (And.right (And.right (And.right (And.right (And.right (by with_reducible assumption)))))))))))))))))))) | exact And.right (And.right (And.right (And.right (And.right (And.right (And.right (And.right (And.right (And.right (And.right (And.right (And.right (And.right (And.right (And.right (And.right (And.right (And.right (And.right (And.right (by with_reducible assumption))))))))))))))))))))) | exact And.right (And.right (And.right (And.right (And.right (And.right (And.right (And.right (And.right (And.right (And.right (And.right (And.right (And.right (And.right (And.right (And.right (And.right (And.right (And.right (And.right (And.right (by with_reducible assumption)))))))))))))))))))))) | exact And.right (And.right (And.right (And.right (And.right (And.right (And.right (And.right (And.right (And.right (And.right (And.right (And.right (And.right (And.right (And.right (And.right (And.right (And.right (And.right (And.right (And.right (And.right (by with_reducible assumption))))))))))))))))))))))) | exact And.right (And.right (And.right (And.right (And.right (And.right (And.right (And.right (And.right (And.right (And.right (And.right (And.right (And.right (And.right (And.right (And.right (And.right (And.right (And.right (And.right (And.right (And.right (And.right (by with_reducible assumption)))))))))))))))))))))))) | exact And.right (And.right (And.right (And.right (And.right (And.right (And.right (And.right (And.right (And.right (And.right (And.right (And.right (And.right (And.right (And.right (And.right (And.right (And.right (And.right (And.right (And.right (And.right (And.right (And.right (by with_reducible assumption))))))))))))))))))))))))) | fail "krn_off")
local macro_rules | `(tactic| k_all) => `(tactic| ((fail_if_success (refine List.forall_mem_cons.mpr ?_)); first | assumption | exact allLt_ne (by krn_off)))
local macro_rules | `(tactic| size_fits) => `(tactic| (simp only [List.size_toArray, PySem.sizeLine_eq]; omega))
local macro_rules | `(tactic| kbt_split) => `(tactic| first | exact Rm.head | (apply Rm.tail; kbt_split) | fail "kbt_split")
local macro_rules | `(tactic| tlg_ne) => `(tactic| first | exact off_nil | exact off_nil2 | (refine off_cons (by simp only [NeAll, and_true]; omega) ?_; tlg_ne) | exact off_sub (by assumption) (by first | (simp; done) | fail "tlg") | (refine off_lt (by krn_off) ?_; tlg_ne))
local macro_rules | `(tactic| fold_lay) => `(tactic| (refine' code_def ?k1 ?k2 ?k3 ?k4 ?k5 ?kA ?kF ?kK ?k6 ?k7 ?k8 ?k9 ?kB ?_ ?c2 ?c3 ?c4 ?c5; (case kA => exact rfl); (case kF => exact rfl); (case kK => first | exact rfl | assumption); (case k1 => k_asm); (case k2 => k_asm); (case k3 => k_asm); (case k4 => k_asm); (case k5 => k_asm); (case k6 => k_is); (case k7 => k_is); (case k8 => ktr_room); (case k9 => first | exact BindsTo.of_eq rfl | exact binds_K (by k_in) rfl (by k_is) rfl rfl rfl); (case c5 => decide); (case kB => exact locs rfl); (case c2 => exact rfl); (case c3 => exact rfl); (case c4 => exact rfl); k_whole; intro g' L' h' FG' F' N' B' X' T'; (try dsimp only); (try k_lift B'); (try k_fold)))
local macro_rules | `(tactic| walk_at "call ref") => `(tactic| (k_here; k_dflt (first
  | (refine' call_cls ?k1 ?k2 ?k3 ?k4 ?k5 ?k6 ?_; (case k1 => k_asm); (case k2 => k_asm); (case k3 => k_asm); (case k4 => k_is); (case k5 => k_is); (case k6 => k_is); k_whole; intro x' d' h' F' N' l1 l2; (try k_lt l1); (try k_lt2 l2); (try k_sweep); fold_lay)
  | (refine' call_meth ?k1 ?k2 ?_; (case k1 => k_asm); (case k2 => k_mem); k_whole; fold_lay)
  | (refine wpAny_call ?_; fold_lay))))
local macro_rules | `(tactic| ktr_units) => `(tactic| ((simp only [units_in1, units_deeper, Around.mark_units, units_make, units_ktr, cLine_is] at *); omega))
local macro_rules | `(tactic| ksw_less) => `(tactic| first | with_reducible exact sub3 | with_reducible assumption | (refine sub1 (by k_mem) ?_; ksw_less) | (refine sub2 ?_; ksw_less))
local macro_rules | `(tactic| k_mem) => `(tactic| ((fail_if_success (apply List.Mem.tail)); assumption))
/-- what a term's writing puts out -/
def outT (nb : Bool) (c : Tbl) : Term → List Str
  | .v k => [nameT c k]
  | .i f => [numT f]
  | .a _ => [atomT (Str.ofString "k")]
  | .fn (.i f) => if nb = true ∧ 0 ≤ f then [varT f] else [atomT (Str.ofString "$VAR"), Str.ofString "(", numT f, Str.ofString ")"]
  | .fn (.a _) => [atomT (Str.ofString "$VAR"), Str.ofString "(", atomT (Str.ofString "k"), Str.ofString ")"]
  | .fn _ => []
def itemsOut (nb : Bool) (c : Tbl) : List Term → List Str
  | [] => []
  | T :: r => outT nb c T ++ r.flatMap fun T => Str.ofString "," :: outT nb c T
def rend (nb : Bool) (c : Tbl) : Task → List Str
  | .raw s => [s]
  | .term T => outT nb c T
  | .lst Ts => Str.ofString "[" :: (itemsOut nb c Ts ++ [Str.ofString "]"])
def rendS (nb : Bool) (c : Tbl) (S : List Task) : List Str := S.flatMap (rend nb c)
theorem rend_tasks (nb : Bool) (c : Tbl) (Ts : List Term) : rendS nb c (tasksOf Ts) = itemsOut nb c Ts := by
  cases Ts with
  | nil => rfl
  | cons T r =>
    unfold rendS tasksOf itemsOut
    rw [List.flatMap_cons]
    congr 1
    induction r with
    | nil => rfl
    | cons T r ih => rw [List.flatMap_cons, List.flatMap_append, ih, List.flatMap_cons]; simp [rend]
/-- what the law builds -/
inductive OkA (Tx : List Str) : Term → Prop
  | i {f : Int} : f ∈ Nums → OkA Tx (.i f)
  | a {n : Int} : 0 ≤ n → n < 100000 → Tx[n.toNat]? = some (Str.ofString "k") → OkA Tx (.a n)
inductive OkT (Tx : List Str) : Term → Prop
  | v {k : Int} : 0 ≤ k → k < 4 → OkT Tx (.v k)
  | arg {T : Term} : OkA Tx T → OkT Tx T
  | fi {f : Int} : f ∈ [(0 : Int), 25, 26, 27, 700, -1] → OkT Tx (.fn (.i f))
  | fa {n : Int} : OkA Tx (.a n) → OkT Tx (.fn (.a n))
inductive OkS (Tx : List Str) : Str → List Task → Prop
  | nil {la : Str} : OkS Tx la []
  | raw {la s : Str} {S : List Task} : 1 ≤ s.length → s.length ≤ 20 → OkS Tx (lastOf s) S → OkS Tx la (.raw s :: S)
  | term {la : Str} {T : Term} {S : List Task} : la ∈ Lasts4 → OkT Tx T → (∀ la', OkS Tx la' S) → OkS Tx la (.term T :: S)
  | lst {la : Str} {T : Term} {Ts : List Term} {S : List Task} : la ∈ Lasts4 → (∀ U ∈ T :: Ts, OkT Tx U) → Ts.length ≤ 50 → (∀ la', OkS Tx la' S) → OkS Tx la (.lst (T :: Ts) :: S)
def sizeT : Term → Nat
  | .fn _ => 5
  | _ => 1
def sizeL (Ts : List Term) : Nat := (Ts.map fun T => sizeT T + 1).sum
def sizeK : Task → Nat
  | .raw _ => 1
  | .term T => sizeT T
  | .lst Ts => sizeL Ts + 3
def sizeS (S : List Task) : Nat := (S.map sizeK).sum
theorem size_app (S S' : List Task) : sizeS (S ++ S') = sizeS S + sizeS S' := by unfold sizeS; rw [List.map_append, List.sum_append]
theorem size_tasks (Ts : List Term) : sizeS (tasksOf Ts) ≤ sizeL Ts := by
  cases Ts with
  | nil => exact Nat.le_refl _
  | cons T r =>
    have h : ((r.flatMap fun T => [Task.raw (Str.ofString ","), Task.term T]).map sizeK).sum = sizeL r := by
      induction r with
      | nil => rfl
      | cons U r ih =>
        rw [List.flatMap_cons, List.map_append, List.sum_append, ih]
        unfold sizeL
        simp [sizeK]; omega
    unfold tasksOf sizeS sizeL
    unfold sizeL at h
    simp only [List.map_cons, List.sum_cons, h, sizeK]; omega
theorem last1 : lastOf (Str.ofString "[") = Str.ofString "[" := by decide +kernel
theorem last2 : lastOf (Str.ofString "(") = Str.ofString "(" := by decide +kernel
theorem last3 : lastOf (Str.ofString ",") = Str.ofString "," := by decide +kernel
theorem in1 : Str.ofString "[" ∈ Lasts4 := by unfold Lasts4; simp
theorem in2 : Str.ofString "(" ∈ Lasts4 := by unfold Lasts4; simp
theorem in3 : Str.ofString "," ∈ Lasts4 := by unfold Lasts4; simp
theorem ok_more {Tx : List Str} {S : List Task} (hS : ∀ la, OkS Tx la S) : ∀ (r : List Term), (∀ U ∈ r, OkT Tx U) → ∀ la, OkS Tx la ((r.flatMap fun T => [Task.raw (Str.ofString ","), Task.term T]) ++ (.raw (Str.ofString "]") :: S))
  | [], _, la => .raw (by decide +kernel) (by decide +kernel) (hS _)
  | U :: r, h, la => .raw (by decide +kernel) (by decide +kernel) (.term (last3 ▸ in3) (h U (.head _)) fun la' => ok_more hS r (fun V hV => h V (.tail _ hV)) la')
theorem ok_lst {Tx : List Str} {S : List Task} {T : Term} {Ts : List Term} (h : ∀ U ∈ T :: Ts, OkT Tx U) (hS : ∀ la, OkS Tx la S) : OkS Tx (Str.ofString "[") (tasksOf (T :: Ts) ++ (.raw (Str.ofString "]") :: S)) :=
  .term in1 (h T (.head _)) fun la' => ok_more hS Ts (fun V hV => h V (.tail _ hV)) la'
theorem ok_fn {Tx : List Str} {S : List Task} {T : Term} {la : Str} (h : OkT Tx T) (hS : ∀ la, OkS Tx la S) : OkS Tx la (.raw (Str.ofString "(") :: .term T :: .raw (Str.ofString ")") :: S) :=
  .raw (by decide +kernel) (by decide +kernel) (.term (last2 ▸ in2) h fun _ => .raw (by decide +kernel) (by decide +kernel) (hS _))
local macro_rules | `(tactic| walk_at "call ref") => `(tactic| (k_here; (with_unfolding_all show wpAny _ _ (call (Value.ref 420) [Value.ref _, Value.ref _]) _ _ _); k_dflt (refine' does_use ?B ?F ?X ?N ?T ?hk (wlist_spec ?a1 ?a2 ?a3 ?a4 ?a5 ?a6 ?a7 ?a8) ?pk ?hd ?hu ?_; (case B => k_asm); (case F => k_asm); (case X => k_asm); (case N => k_asm); (case T => k_asm); (case hk => first | exact rfl | assumption); (case pk => (refine' Pk.cons ?q1 (Pk.cons ?q2 (Pk.cons ?q3 (Pk.cons ?q4 Pk.nil))); (case q1 => kbt_split); (case q2 => kbt_split); (case q3 => kbt_split); (case q4 => kbt_split))); (case a1 => assumption); (case a2 => omega); (case a3 => omega); (case a4 => assumption); (case a5 => assumption); (case a6 => omega); (case a7 => tlg_ne); (case a8 => omega); (case hd => ktr_room); (case hu => ktr_units)); intro r9 n9 h9 t9 p9 F9 N9; (obtain ⟨R9, n8, no9, ta9, tb9, rl9, hr9, hT9, ho9, hA9, hled9⟩ := p9); (subst hr9); (subst hled9); (try dsimp only)))
set_option maxHeartbeats 8000000 in
theorem wl_spec {w : World} {mean : ExcName → Option Value} {mg mb : Str → Option Value} {rest r0 : Led} {x dx xs xo an at' lo lw : Nat} {nb : Bool} {h1 h2 h3 h4 h5 h6 h7 h8 h9 h10 h11 : Int} {k1 k2 k3 k4 k5 k6 k7 k8 k9 k10 k11 : Tok} {la : Str} {ta : Tok} {v : Addr} {W O : List Value} {n no : Nat} {l : Int} {tl : Tok} {T : Term} {Ts : List Term}
    (hla : la ∈ Lasts4) (hO : O.length ≤ 1000) (hW : W.length ≤ 1000) (hc : ChainIs r0 (.ref v) (T :: Ts)) (hsub : ∀ p ∈ r0, p ∈ rest) (hn : (T :: Ts).length ≤ 100) (ho : OwnOff rest [x, dx, lo, lw]) (hne : x ≠ dx ∧ x ≠ lo ∧ x ≠ lw ∧ dx ≠ lo ∧ dx ≠ lw ∧ lo ≠ lw) :
    Does 12 w mean mg mb 392 [.ref x, .ref v, .int l tl, .bool true] ((x, instObj 472 dx) :: (dx, dictOf [⟨h1, .str (Str.ofString "symbols") k1, .ref xs⟩, ⟨h2, .str (Str.ofString "operators") k2, .ref xo⟩, ⟨h3, .str (Str.ofString "quoted") k3, .bool true⟩, ⟨h4, .str (Str.ofString "ignore_ops") k4, .bool false⟩, ⟨h5, .str (Str.ofString "numbervars") k5, .bool nb⟩, ⟨h6, .str (Str.ofString "names") k6, .ref an⟩, ⟨h7, .str (Str.ofString "taken") k7, .ref at'⟩, ⟨h8, .str (Str.ofString "out") k8, .ref lo⟩, ⟨h9, .str (Str.ofString "last") k9, .str (la) ta⟩, ⟨h10, .str (Str.ofString "prefixed") k10, .bool false⟩, ⟨h11, .str (Str.ofString "work") k11, .ref lw⟩] 11) :: (lo, listOf O.toArray no) :: (lw, listOf W.toArray n) :: rest)
      (fun r led => ∃ R n' no' ta' tb rl, r = .none ∧ TasksAre (rl ++ r0) R (tasksOf (T :: Ts) ++ [.raw (Str.ofString "]")]) ∧ OwnOff rl [x, dx, lo, lw] ∧ Above rl rest ∧
        led = (x, instObj 472 dx) :: (dx, dictOf [⟨h1, .str (Str.ofString "symbols") k1, .ref xs⟩, ⟨h2, .str (Str.ofString "operators") k2, .ref xo⟩, ⟨h3, .str (Str.ofString "quoted") k3, .bool true⟩, ⟨h4, .str (Str.ofString "ignore_ops") k4, .bool false⟩, ⟨h5, .str (Str.ofString "numbervars") k5, .bool nb⟩, ⟨h6, .str (Str.ofString "names") k6, .ref an⟩, ⟨h7, .str (Str.ofString "taken") k7, .ref at'⟩, ⟨h8, .str (Str.ofString "out") k8, .ref lo⟩, ⟨h9, .str (Str.ofString "last") k9, .str ((Str.ofString "[")) ta'⟩, ⟨h10, .str (Str.ofString "prefixed") k10, .bool false⟩, ⟨h11, .str (Str.ofString "work") k11, .ref lw⟩] 11) :: (lo, listOf (O ++ [Value.str (Str.ofString "[") tb]).toArray no') :: (lw, listOf (W ++ R.reverse).toArray n') :: (rl ++ rest)) := by
  unfold Does
  intro dp un gd cn cs fa ccd cl outer A₀ base h₀ L m s Q E B F X N Tp hk hd hu hret
  have hc0 := hc
  cases hc with
  | cons hm1 hm2 hT hc =>
    have hm1' := hsub _ hm1
    have hm2' := hsub _ hm2
    refine wpAny_call ?_
    k_dflt cell_enter
    k_steps
    rename_i kF kN _ _
    exact hret _ _ _ _ ⟨_, _, _, _, _, _, rfl, by assumption, by assumption, by assumption, rfl⟩ kF kN
end Mine
end
section
-- part E11a
open PySem PySem.W PySem.Calls PyProof.Rows PyProof.V PySem.Spec
namespace Mine
local macro_rules | `(tactic| krn_off) => `(tactic| first | with_reducible assumption | exact allLt_of (by with_reducible assumption) | exact And.right (by with_reducible assumption) | exact And.right (And.right (by with_reducible assumption)) | exact And.right (And.right (And.right (by with_reducible assumption))) | exact And.right (And.right (And.right (And.right (by with_reducible assumption)))) | exact And.right (And.right (And.right (And.right (And.right (by with_reducible assumption))))) | exact And.right (And.right (And.right (And.right (And.right (And.right (by with_reducible assumption)))))) | exact And.right (And.right (And.right (And.right (And.right (And.right (And.right (by with_reducible assumption))))))) | exact And.right (And.right (And.right (And.right (And.right (And.right (And.right (And.right (by with_reducible assumption)))))))) | exact And.right (And.right (And.right (And.right (And.right (And.right (And.right (And.right (And.right (by with_reducible assumption))))))))) | exact And.right (And.right (And.right (And.right (And.right (And.right (And.right (And.right (And.right (And.right (by with_reducible assumption)))))))))) | exact And.right (And.right (And.right (And.right (And.right (And.right (And.right (And.right (And.right (And.right (And.right (by with_reducible assumption))))))))))) | exact And.right (And.right (And.right (And.right (And.right (And.right (And.right (And.right (And.right (And.right (And.right (And.right (by with_reducible assumption)))))))))))) | exact And.right (And.right (And.right (And.right (And.right (And.right (And.right (And.right (And.right (And.right (And.right (And.right (And.right (by with_reducible assumption))))))))))))) | exact And.right (And.right (And.right (And.right (And.right (And.right (And.right (And.right (And.right (And.right (And.right (And.right (And.right (And.right (by with_reducible assumption)))))))))))))) | exact And.right (And.right (And.right (And.right (And.right (And.right (And.right (And.right (And.right (And.right (And.right (And.right (And.right (And.right (And.right (by with_reducible assumption))))))))))))))) | exact And.right (And.right (And.right (And.right (And.right (And.right (And.right (And.right (And.right (And.right (And.right (And.right (And.right (And.right (And.right (And.right (by with_reducible assumption)))))))))))))))) | exact And.right (And.right (And.right (And.right (And.right (And.right (And.right (And.right (And.right (And.right (And.right (And.right (And.right (And.right (And.right (And.right (And.right (by with_reducible assumption))))))))))))))))) | exact And.right (And.right (And.right (And.right (And.right (And.right (And.right (And.right (And.right (And.right (And.right (And.right (And.right (And.right (And.right (And.right (And.right (And.right (by with_reducible assumption)))))))))))))))))) | exact And.right (And.right (And.right (And.right (And.right (And.right (And.right (And.right (And.right (And.right (And.right (And.right (And.right (And.right (And.right (And.right (And.right (And.right (And.right (by with_reducible assumption))))))))))))))))))) | exact And.right (And.right (And.right (And.right (And.right (And.right (And.right (And.right (And.right (And.right (And.right (And.right (And.right (And.right (And.right (And.right (And.right (And.right (And.right (And.right (by with_reducible assumption)))))))))))))))))))) | exact And.right (And.right (And.right (And.right (And.right (And.right (And.right (And.right (And.right (And.right (And.right (And.right (And.right (And.right (And.right (And.right (And.right (And.right (And.right (And.right (And.right (by with_reducible assumption))))))))))))))))))))) | exact And.right (And.right (And.right (And.right (And.right (And.right (And.right (And.right (And.right (And.right (And.right (And.right (And.right (And.right (And.right (And.right (And.right (And.right (And.right (And.right (And.right (And.right (by with_reducible assumption)))))))))))))))))))))) | exact And.right (And.right (And.right (And.right (And.right (And.right (And.right (And.right (And.right (And.right (And.right (And.right (And.right (And.right (And.right (And.right (And.right (And.right (And.right (And.right (And.right (And.right (And.right (by with_reducible assumption))))))))))))))))))))))) | exact And.right (And.right (And.right (And.right (And.right (And.right (And.right (And.right (And.right (And.right (And.right (And.right (And.right (And.right (And.right (And.right (And.right (And.right (And.right (And.right (And.right (And.right (And.right (And.right (by with_reducible assumption)))))))))))))))))))))))) | exact And.right (And.right (And.right (And.right (And.right (And.right (And.right (And.right (And.right (And.right (And.right (And.right (And.right (And.right (And.right (And.right (And.right (And.right (And.right (And.right (And.right (And.right (And.right (And.right (And.right (by with_reducible assumption))))))))))))))))))))))))) | fail "krn_off")
local macro_rules | `(tactic| k_all) => `(tactic| ((fail_if_success (refine List.forall_mem_cons.mpr ?_)); first | assumption | exact allLt_ne (by krn_off)))
local macro_rules | `(tactic| size_fits) => `(tactic| (simp only [List.size_toArray, PySem.sizeLine_eq]; omega))
local macro_rules | `(tactic| kbt_split) => `(tactic| first | exact Rm.head | (apply Rm.tail; kbt_split) | fail "kbt_split")
local macro_rules | `(tactic| tlg_ne) => `(tactic| first | exact off_nil | exact off_nil2 | (refine off_cons (by simp only [NeAll, and_true]; omega) ?_; tlg_ne) | exact off_sub (by assumption) (by first | (simp; done) | fail "tlg") | (refine off_lt (by krn_off) ?_; tlg_ne))
local macro_rules | `(tactic| fold_lay) => `(tactic| (refine' code_def ?k1 ?k2 ?k3 ?k4 ?k5 ?kA ?kF ?kK ?k6 ?k7 ?k8 ?k9 ?kB ?_ ?c2 ?c3 ?c4 ?c5; (case kA => exact rfl); (case kF => exact rfl); (case kK => first | exact rfl | assumption); (case k1 => k_asm); (case k2 => k_asm); (case k3 => k_asm); (case k4 => k_asm); (case k5 => k_asm); (case k6 => k_is); (case k7 => k_is); (case k8 => ktr_room); (case k9 => first | exact BindsTo.of_eq rfl | exact binds_K (by k_in) rfl (by k_is) rfl rfl rfl); (case c5 => decide); (case kB => exact locs rfl); (case c2 => exact rfl); (case c3 => exact rfl); (case c4 => exact rfl); k_whole; intro g' L' h' FG' F' N' B' X' T'; (try dsimp only); (try k_lift B'); (try k_fold)))
local macro_rules | `(tactic| walk_at "call ref") => `(tactic| (k_here; k_dflt (first
  | (refine' call_cls ?k1 ?k2 ?k3 ?k4 ?k5 ?k6 ?_; (case k1 => k_asm); (case k2 => k_asm); (case k3 => k_asm); (case k4 => k_is); (case k5 => k_is); (case k6 => k_is); k_whole; intro x' d' h' F' N' l1 l2; (try k_lt l1); (try k_lt2 l2); (try k_sweep); fold_lay)
  | (refine' call_meth ?k1 ?k2 ?_; (case k1 => k_asm); (case k2 => k_mem); k_whole; fold_lay)
  | (refine wpAny_call ?_; fold_lay))))
local macro_rules | `(tactic| ktr_units) => `(tactic| ((simp only [units_in1, units_deeper, Around.mark_units, units_make, units_ktr, cLine_is] at *); omega))
local macro_rules | `(tactic| ksw_less) => `(tactic| first | with_reducible exact sub3 | with_reducible assumption | (refine sub1 (by k_mem) ?_; ksw_less) | (refine sub2 ?_; ksw_less))
local macro_rules | `(tactic| k_mem) => `(tactic| ((fail_if_success (apply List.Mem.tail)); assumption))
theorem size_pos (t : Task) : 1 ≤ sizeK t := by
  cases t with
  | raw s => exact Nat.le_refl _
  | term T => cases T <;> simp [sizeK, sizeT]
  | lst Ts => simp only [sizeK]; omega
theorem len_size : ∀ S : List Task, S.length ≤ sizeS S
  | [] => Nat.le_refl _
  | t :: S => by
    have h1 := len_size S
    have h2 := size_pos t
    unfold sizeS at *
    simp only [List.map_cons, List.sum_cons, List.length_cons]
    omega
theorem rendS_cons (nb : Bool) (c : Tbl) (t : Task) (S : List Task) : rendS nb c (t :: S) = rend nb c t ++ rendS nb c S := by unfold rendS; rw [List.flatMap_cons]
theorem rendS_lst (nb : Bool) (c : Tbl) (Ts : List Term) (S : List Task) : Str.ofString "[" :: rendS nb c (tasksOf Ts ++ [.raw (Str.ofString "]")] ++ S) = rendS nb c (.lst Ts :: S) := by
  rw [rendS_cons]
  have e := rend_tasks nb c Ts
  unfold rendS at *
  rw [List.flatMap_append, List.flatMap_append, e]
  simp [rend]
theorem size_cons (t : Task) (S : List Task) : sizeS (t :: S) = sizeK t + sizeS S := by unfold sizeS; simp
theorem numT_len {f : Int} (h : f ∈ Nums) : 1 ≤ (numT f).length ∧ (numT f).length ≤ 20 := by
  unfold Nums at h
  simp only [List.mem_cons, List.not_mem_nil, or_false] at h
  rcases h with rfl | rfl | rfl | rfl | rfl | rfl | rfl <;> decide +kernel
theorem figs_nums {f : Int} (h : f ∈ [(0 : Int), 25, 26, 27, 700, -1]) : f ∈ Nums := by
  simp only [List.mem_cons, List.not_mem_nil, or_false] at h
  rcases h with rfl | rfl | rfl | rfl | rfl | rfl <;> decide
theorem figs_pos {f : Int} (h : f ∈ [(0 : Int), 25, 26, 27, 700, -1]) (h0 : 0 ≤ f) : f ∈ [(0 : Int), 25, 26, 27, 700] := by
  simp only [List.mem_cons, List.not_mem_nil, or_false] at h
  rcases h with rfl | rfl | rfl | rfl | rfl | rfl <;> first | decide | omega
theorem varT_len {f : Int} (h : f ∈ [(0 : Int), 25, 26, 27, 700]) : 1 ≤ (varT f).length ∧ (varT f).length ≤ 20 := by
  simp only [List.mem_cons, List.not_mem_nil, or_false] at h
  rcases h with rfl | rfl | rfl | rfl | rfl <;> decide +kernel
theorem outT_ok {nb : Bool} {c : Tbl} {Tx : List Str} {T : Term} (hs : Short (vals c)) (hl : Long (vals c)) (h : OkT Tx T) : (outT nb c T).length ≤ 4 ∧ ∀ s ∈ outT nb c T, s.length ≤ 20 := by
  have four : ∀ t : Str, t.length ≤ 20 → (∀ s ∈ [atomT (Str.ofString "$VAR"), Str.ofString "(", t, Str.ofString ")"], s.length ≤ 20) := by
    intro t ht s hs
    simp only [List.mem_cons, List.not_mem_nil, or_false] at hs
    rcases hs with rfl | rfl | rfl | rfl
    · decide +kernel
    · decide +kernel
    · exact ht
    · decide +kernel
  have one : ∀ t : Str, t.length ≤ 20 → ∀ s ∈ [t], s.length ≤ 20 := fun t ht s hs => by rw [List.mem_singleton.mp hs]; exact ht
  cases h with
  | v h0 h3 => exact ⟨Nat.le_of_ble_eq_true rfl, one _ (name_len hs hl h0 h3).2⟩
  | arg h =>
    cases h with
    | i hf => exact ⟨Nat.le_of_ble_eq_true rfl, one _ (numT_len hf).2⟩
    | a _ _ _ => exact ⟨Nat.le_of_ble_eq_true rfl, one _ (by decide +kernel)⟩
  | @fi f hf =>
    show (if nb = true ∧ 0 ≤ f then [varT f] else [atomT (Str.ofString "$VAR"), Str.ofString "(", numT f, Str.ofString ")"]).length ≤ 4 ∧ ∀ s ∈ (if nb = true ∧ 0 ≤ f then [varT f] else [atomT (Str.ofString "$VAR"), Str.ofString "(", numT f, Str.ofString ")"]), s.length ≤ 20
    split
    · rename_i hc; exact ⟨by simp, one _ (varT_len (figs_pos hf hc.2)).2⟩
    · exact ⟨by simp, four _ (numT_len (figs_nums hf)).2⟩
  | fa _ => exact ⟨Nat.le_of_ble_eq_true rfl, four _ (by decide +kernel)⟩
theorem more_ok {nb : Bool} {c : Tbl} {Tx : List Str} (hs : Short (vals c)) (hl : Long (vals c)) : ∀ r : List Term, (∀ U ∈ r, OkT Tx U) → (r.flatMap fun T => Str.ofString "," :: outT nb c T).length ≤ 5 * r.length ∧ ∀ s ∈ (r.flatMap fun T => Str.ofString "," :: outT nb c T), s.length ≤ 20
  | [], _ => ⟨by simp, fun s h => by simp at h⟩
  | U :: r, h => by
    obtain ⟨a1, a2⟩ := more_ok hs hl r fun V hV => h V (.tail _ hV)
    obtain ⟨b1, b2⟩ := outT_ok (nb := nb) hs hl (h U (.head _))
    rw [List.flatMap_cons]
    refine ⟨?_, fun s hs => ?_⟩
    · rw [List.length_append]
      exact Nat.le_trans (Nat.add_le_add (show (Str.ofString "," :: outT nb c U).length ≤ 5 by rw [List.length_cons]; omega) a1) (by rw [List.length_cons]; omega)
    · rcases List.mem_append.mp hs with hs | hs
      · rcases List.mem_cons.mp hs with rfl | hs
        · decide +kernel
        · exact b2 s hs
      · exact a2 s hs
theorem rend_ok {nb : Bool} {c : Tbl} {Tx : List Str} (hs : Short (vals c)) (hl : Long (vals c)) {T : Term} {Ts : List Term} (h : ∀ U ∈ T :: Ts, OkT Tx U) (hn : Ts.length ≤ 50) : (rend nb c (.lst (T :: Ts))).length ≤ 300 ∧ ∀ s ∈ rend nb c (.lst (T :: Ts)), s.length ≤ 20 := by
  obtain ⟨a1, a2⟩ := more_ok (nb := nb) hs hl Ts fun V hV => h V (.tail _ hV)
  obtain ⟨b1, b2⟩ := outT_ok (nb := nb) hs hl (h T (.head _))
  unfold rend itemsOut
  refine ⟨?_, fun s hs => ?_⟩
  · simp only [List.length_append, List.length_cons, List.length_nil]; omega
  · rcases List.mem_cons.mp hs with rfl | hs
    · decide +kernel
    · rcases List.mem_append.mp hs with hs | hs
      · rcases List.mem_append.mp hs with hs | hs
        · exact b2 s hs
        · exact a2 s hs
      · rw [List.mem_singleton.mp hs]; decide +kernel
theorem weight {l : List Str} (h : ∀ s ∈ l, s.length ≤ 20) : (l.map (·.length)).sum ≤ 20 * l.length := by
  induction l with
  | nil => exact Nat.le_refl _
  | cons t l ih =>
    have h1 := h t (.head _)
    have h2 := ih fun s hs => h s (.tail _ hs)
    simp only [List.map_cons, List.sum_cons, List.length_cons]; omega
theorem sizeL_le (Ts : List Term) : sizeL Ts ≤ 6 * Ts.length := by
  unfold sizeL
  induction Ts with
  | nil => exact Nat.le_refl _
  | cons T r ih =>
    have : sizeT T ≤ 5 := by cases T <;> simp [sizeT]
    simp only [List.map_cons, List.sum_cons, List.length_cons]; omega
end Mine
end
section
-- part E11
open PySem PySem.W PySem.Calls PyProof.Rows PyProof.V PySem.Spec
namespace Mine
local macro_rules | `(tactic| krn_off) => `(tactic| first | with_reducible assumption | exact allLt_of (by with_reducible assumption) | exact And.right (by with_reducible assumption) | exact And.right (And.right (by with_reducible assumption)) | exact And.right (And.right (And.right (by with_reducible assumption))) | exact And.right (And.right (And.right (And.right (by with_reducible assumption)))) | exact And.right (And.right (And.right (And.right (And.right (by with_reducible assumption))))) | exact And.right (And.right (And.right (And.right (And.right (And.right (by with_reducible assumption)))))) | exact And.right (And.right (And.right (And.right (And.right (And.right (And.right (by with_reducible assumption))))))) | exact And.right (And.right (And.right (And.right (And.right (And.right (And.right (And.right (by with_reducible assumption)))))))) | exact And.right (And.right (And.right (And.right (And.right (And.right (And.right (And.right (And.right (by with_reducible assumption))))))))) | exact And.right (And.right (And.right (And.right (And.right (And.right (And.right (And.right (And.right (And.right (by with_reducible assumption)))))))))) | exact And.right (And.right (And.right (And.right (And.right (And.right (And.right (And.right (And.right (And.right (And.right (by with_reducible assumption))))))))))) | exact And.right (And.right (And.right (And.right (And.right (And.right (And.right (And.right (And.right (And.right (And.right (And.right (by with_reducible assumption)))))))))))) | exact And.right (And.right (And.right (And.right (And.right (And.right (And.right (And.right (And.right (And.right (And.right (And.right (And.right (by with_reducible assumption))))))))))))) | exact And.right (And.right (And.right (And.right (And.right (And.right (And.right (And.right (And.right (And.right (And.right (And.right (And.right (And.right (by with_reducible assumption)))))))))))))) | exact And.right (And.right (And.right (And.right (And.right (And.right (And.right (And.right (And.right (And.right (And.right (And.right (And.right (And.right (And.right (by with_reducible assumption))))))))))))))) | exact And.right (And.right (And.right (And.right (And.right (And.right (And.right (And.right (And.right (And.right (And.right (And.right (And.right (And.right (And.right (And.right (by with_reducible assumption)))))))))))))))) | exact And.right (And.right (And.right (And.right (And.right (And.right (And.right (And.right (And.right (And.right (And.right (And.right (And.right (And.right (And.right (And.right (And.right (by with_reducible assumption))))))))))))))))) | exact And.right (And.right (And.right (And.right (And.right (And.right (And.right (And.right (And.right (And.right (And.right (And.right (And.right (And.right (And.right (And.right (And.right (And.right (by with_reducible assumption)))))))))))))))))) | exact And.right (And.right (And.right (And.right (And.right (And.right (And.right (And.right (And.right (And.right (And.right (And.right (And.right (And.right (And.right (And.right (And.right (And.right (And.right (by with_reducible assumption))))))))))))))))))) | exact And.right (And.right (And.right (And.right (And.right (And.right (And.right (And.right (And.right (And.right (And.right (And.right (And.right (And.right (And.right (And.right (And.right (And.right (And.right (And.right (by with_reducible assumption)))))))))))))))))))) | exact And.right (And.right (And.right (And.right (And.right (And.right (And.right (And.right (And.right (And.right (And.right (And.right (And.right (And.right (And.right (And.right (And.right (And.right (And.right (And.right (And.right (by with_reducible assumption))))))))))))))))))))) | exact And.right (And.right (And.right (And.right (And.right (And.right (And.right (And.right (And.right (And.right (And.right (And.right (And.right (And.right (And.right (And.right (And.right (And.right (And.right (And.right (And.right (And.right (by with_reducible assumption)))))))))))))))))))))) | exact And.right (And.right (And.right (And.right (And.right (And.right (And.right (And.right (And.right (And.right (And.right (And.right (And.right (And.right (And.right (And.right (And.right (And.right (And.right (And.right (And.right (And.right (And.right (by with_reducible assumption))))))))))))))))))))))) | exact And.right (And.right (And.right (And.right (And.right (And.right (And.right (And.right (And.right (And.right (And.right (And.right (And.right (And.right (And.right (And.right (And.right (And.right (And.right (And.right (And.right (And.right (And.right (And.right (by with_reducible assumption)))))))))))))))))))))))) | exact And.right (And.right (And.right (And.right (And.right (And.right (And.right (And.right (And.right (And.right (And.right (And.right (And.right (And.right (And.right (And.right (And.right (And.right (And.right (And.right (And.right (And.right (And.right (And.right (And.right (by with_reducible assumption))))))))))))))))))))))))) | fail "krn_off")
local macro_rules | `(tactic| k_all) => `(tactic| ((fail_if_success (refine List.forall_mem_cons.mpr ?_)); first | assumption | exact allLt_ne (by krn_off)))
local macro_rules | `(tactic| size_fits) => `(tactic| (simp only [List.size_toArray, PySem.sizeLine_eq]; omega))
local macro_rules | `(tactic| kbt_split) => `(tactic| first | exact Rm.head | (apply Rm.tail; kbt_split) | fail "kbt_split")
local macro_rules | `(tactic| tlg_ne) => `(tactic| first | exact off_nil | exact off_nil2 | (refine off_cons (by simp only [NeAll, and_true]; omega) ?_; tlg_ne) | exact off_sub (by assumption) (by first | (simp; done) | fail "tlg") | (refine off_lt (by krn_off) ?_; tlg_ne))
local macro_rules | `(tactic| fold_lay) => `(tactic| (refine' code_def ?k1 ?k2 ?k3 ?k4 ?k5 ?kA ?kF ?kK ?k6 ?k7 ?k8 ?k9 ?kB ?_ ?c2 ?c3 ?c4 ?c5; (case kA => exact rfl); (case kF => exact rfl); (case kK => first | exact rfl | assumption); (case k1 => k_asm); (case k2 => k_asm); (case k3 => k_asm); (case k4 => k_asm); (case k5 => k_asm); (case k6 => k_is); (case k7 => k_is); (case k8 => ktr_room); (case k9 => first | exact BindsTo.of_eq rfl | exact binds_K (by k_in) rfl (by k_is) rfl rfl rfl); (case c5 => decide); (case kB => exact locs rfl); (case c2 => exact rfl); (case c3 => exact rfl); (case c4 => exact rfl); k_whole; intro g' L' h' FG' F' N' B' X' T'; (try dsimp only); (try k_lift B'); (try k_fold)))
local macro_rules | `(tactic| walk_at "call ref") => `(tactic| (k_here; k_dflt (first
  | (refine' call_cls ?k1 ?k2 ?k3 ?k4 ?k5 ?k6 ?_; (case k1 => k_asm); (case k2 => k_asm); (case k3 => k_asm); (case k4 => k_is); (case k5 => k_is); (case k6 => k_is); k_whole; intro x' d' h' F' N' l1 l2; (try k_lt l1); (try k_lt2 l2); (try k_sweep); fold_lay)
  | (refine' call_meth ?k1 ?k2 ?_; (case k1 => k_asm); (case k2 => k_mem); k_whole; fold_lay)
  | (refine wpAny_call ?_; fold_lay))))
local macro_rules | `(tactic| ktr_units) => `(tactic| ((simp only [units_in1, units_deeper, Around.mark_units, units_make, units_ktr, cLine_is] at *); omega))
local macro_rules | `(tactic| ksw_less) => `(tactic| first | with_reducible exact sub3 | with_reducible assumption | (refine sub1 (by k_mem) ?_; ksw_less) | (refine sub2 ?_; ksw_less))
local macro_rules | `(tactic| k_mem) => `(tactic| ((fail_if_success (apply List.Mem.tail)); assumption))
theorem truthy_snoc {prog : Program} {w : World} {A : Around} {E : Value → Shared → Prop} {s : Shared} {h₀ : Heap} {L l : Addr} {news : Led} {vs : List Value} {v : Value} {n : Nat} {Q : Bool → Shared → Prop} (N : News h₀ L s.heap news) (hm : (l, listOf (vs ++ [v]).toArray n) ∈ news) (hz : (vs ++ [v]).length ≤ 1000000)
    (h : ∀ tk, Q true { s with toks := tk }) : wpAny (model prog w) A (truthy (.ref l)) Q E s :=
  wpAny_truthy_list ⟨_, (N _ hm).1, rfl, n, rfl⟩ (by rw [List.size_toArray]; omega) (by
    have e : (!(vs ++ [v]).toArray.isEmpty) = true := by simp
    rw [e]; exact h _)
theorem truthy_no {prog : Program} {w : World} {A : Around} {E : Value → Shared → Prop} {s : Shared} {h₀ : Heap} {L l : Addr} {news : Led} {n : Nat} {Q : Bool → Shared → Prop} (N : News h₀ L s.heap news) (hm : (l, listOf ([] : List Value).toArray n) ∈ news)
    (h : ∀ tk, Q false { s with toks := tk }) : wpAny (model prog w) A (truthy (.ref l)) Q E s :=
  wpAny_truthy_list ⟨_, (N _ hm).1, rfl, n, rfl⟩ (by decide) (h _)
local macro_rules | `(tactic| walk_at "truthy ref") => `(tactic| (k_here; (with_reducible show wpAny _ _ (truthy (Value.ref _)) _ _ _); k_dflt (first | refine truthy_snoc (by k_asm) (by k_mem) (by simp only [List.length_append, List.length_reverse, List.length_cons, List.length_nil]; omega) (fun t9 => ?_) | refine truthy_no (by k_asm) (by k_mem) (fun t9 => ?_))))
local macro_rules | `(tactic| walk_at "call builtin:list.pop") => `(tactic| (k_here; k_dflt ((with_reducible show wpAny _ _ (call (Value.builtin _) [Value.ref _]) _ _ _); refine' kl_pop ?F ?N ?e ?U ?z ?_; (case F => k_asm); (case N => k_asm); (case U => k_upd); (case e => exact kpa_last _ _); (case z => (rw [sizeLine_eq]; (show (_ ++ [_]).length ≤ _); simp only [List.length_append, List.length_reverse, List.length_cons, List.length_nil]; omega))); kl_rest))
local macro_rules | `(tactic| walk_at "call builtin:str.join") => `(tactic| (k_here; (with_reducible show wpAny _ _ (call (Value.builtin "str.join") [Value.str _ _, Value.ref _]) _ _ _); k_dflt (refine join_listW (News.isList (by k_asm) (by k_mem)) (by assumption) (by decide +kernel) (by assumption) ?_); intro t9 k9))
local macro_rules | `(tactic| walk_at "exec While") => `(tactic| (k_here; refine whl_go ?_))
local macro_rules | `(tactic| walk_at "exec While Attribute") => `(tactic| (k_here; refine whl_go ?_))
local macro_rules | `(tactic| walk_at "WhlP") => `(tactic| (dsimp only [WhlP]))
local macro_rules | `(tactic| walk_at "call ref") => `(tactic| (k_here; (with_unfolding_all show wpAny _ _ (call (Value.ref 364) [Value.ref _, Value.str _ _]) _ _ _); k_dflt (refine' does_use ?B ?F ?X ?N ?T ?hk (raw_spec ?a1 ?a2 ?a3 ?a4 ?a5 ?a6) ?pk ?hd ?hu ?_; (case B => k_asm); (case F => k_asm); (case X => k_asm); (case N => k_asm); (case T => k_asm); (case hk => first | exact rfl | assumption); (case pk => (refine' Pk.cons ?q1 (Pk.cons ?q2 (Pk.cons ?q3 Pk.nil)); (case q1 => kbt_split); (case q2 => kbt_split); (case q3 => kbt_split))); (case a1 => omega); (case a2 => first | assumption | decide +kernel); (case a3 => first | assumption | decide +kernel); (case a4 => first | assumption | decide +kernel); (case a5 => tlg_ne); (case a6 => omega); (case hd => ktr_room); (case hu => ktr_units)); intro r9 n9 h9 t9 p9 F9 N9; (obtain ⟨ta9, no9, hr9, hled9⟩ := p9); (subst hr9); (subst hled9); (try dsimp only)))
theorem app_permG {A l r : Led} : ∀ p, p ∈ A ++ (l ++ r) → p ∈ l ++ (A ++ r) := fun p hp => by
  rcases List.mem_append.mp hp with hp | hp
  · exact List.mem_append_right _ (List.mem_append_left _ hp)
  · rcases List.mem_append.mp hp with hp | hp
    · exact List.mem_append_left _ hp
    · exact List.mem_append_right _ (List.mem_append_right _ hp)
theorem app_perm {a b : Addr × Obj} {l r : Led} : ∀ p, p ∈ a :: b :: (l ++ r) → p ∈ l ++ (a :: b :: r) := fun p hp => by
  rcases List.mem_cons.mp hp with rfl | hp
  · exact List.mem_append_right _ (.head _)
  · rcases List.mem_cons.mp hp with rfl | hp
    · exact List.mem_append_right _ (.tail _ (.head _))
    · rcases List.mem_append.mp hp with hp | hp
      · exact List.mem_append_left _ hp
      · exact List.mem_append_right _ (.tail _ (.tail _ hp))
def Stop (p : Prop) : Prop := p
theorem stopper {p : Prop} (h : Stop p) : p := h
local macro_rules | `(tactic| walk_at "call ref") => `(tactic| (k_here; (with_unfolding_all show wpAny _ _ (call (Value.ref 392) [Value.ref _, _, Value.int _ _, Value.bool _]) _ _ _); refine stopper ?_))
set_option maxHeartbeats 4000000 in
theorem text_spec {w : World} {mean : ExcName → Option Value} {mg mb : Str → Option Value} {rr : Led} {x dx xs xo an at' lo lw : Nat} {nb : Bool} {h1 h2 h3 h4 h5 h6 h7 h8 h9 h10 h11 : Int} {k1 k2 k3 k4 k5 k6 k7 k8 k9 k10 k11 : Tok} {ds bt bn bf bg nds nt nf k17 : Nat} {g1 g2 g3 g4 : Int} {j1 j2 j3 j4 : Tok} {vT Fs : List Value} {tf1 tf2 : Tok} {dy bp bi bq ndy : Nat} {f1 f2 f3 f4 : Int} {m1 m2 m3 m4 : Tok} {op oq : Obj} {kp : List (Int × Value)} {la : Str} {ta tl : Tok} {v : Addr} {l : Int} {c : Tbl} {on ot : Obj} {kn : List (Int × Value)} {kt : List (Str × Value)} {Tx : List Str} {T0 : Term} {Ts0 : List Term}
    (hs : Short (vals c)) (hl : Long (vals c)) (hdn : on.IsDictOf (PySem.intKind P0 w) kn) (hfn : FlatPairs PyData.int kn (tblD c)) (hln : (an == sysModules) = false) (hdt : ot.IsDictOf (PySem.strKind P0 w) kt) (hft : FlatPairs PyData.str kt (takD (vals c))) (hlt : (at' == sysModules) = false)
    (hsT : StrsAre vT Tx) (hTok : Tx[26]? = some (Str.ofString "$VAR")) (hF : Fs[17]? = some (.ref k17)) (hop : op.IsDictOf (PySem.intKind P0 w) kp) (h26 : valueAt kp 26 = none) (hoq : oq.IsDictOf (PySem.intKind P0 w) []) (hbp : (bp == sysModules) = false) (hbq : (bq == sysModules) = false)
    (hc : ChainIs rr (.ref v) (T0 :: Ts0)) (hok : ∀ U ∈ T0 :: Ts0, OkT Tx U) (hlen : Ts0.length ≤ 50)
    (ho : OwnOff rr [x, dx]) (hso : xs < dx ∧ ds < dx ∧ bt < dx ∧ bf < dx ∧ k17 < dx ∧ xo < dx ∧ dy < dx ∧ bp < dx ∧ bq < dx ∧ dx < x ∧ x < an ∧ an < at') :
    Does 16 w mean mg mb 357 [.ref x, .ref v, .int 1201 tl] ((x, instObj 472 dx) :: (dx, dictOf [⟨h1, .str (Str.ofString "symbols") k1, .ref xs⟩, ⟨h2, .str (Str.ofString "operators") k2, .ref xo⟩, ⟨h3, .str (Str.ofString "quoted") k3, .bool true⟩, ⟨h4, .str (Str.ofString "ignore_ops") k4, .bool false⟩, ⟨h5, .str (Str.ofString "numbervars") k5, .bool nb⟩, ⟨h6, .str (Str.ofString "names") k6, .ref an⟩, ⟨h7, .str (Str.ofString "taken") k7, .ref at'⟩, ⟨h8, .str (Str.ofString "out") k8, .ref lo⟩, ⟨h9, .str (Str.ofString "last") k9, .str (la) ta⟩, ⟨h10, .str (Str.ofString "prefixed") k10, .bool false⟩, ⟨h11, .str (Str.ofString "work") k11, .ref lw⟩] 11) :: (xs, instObj 122 ds) :: (ds, symDict g1 g2 g3 g4 j1 j2 j3 j4 bt bn bf bg nds) :: (bt, listOf vT.toArray nt) :: (bf, listOf Fs.toArray nf) :: (k17, tupO [.int 26 tf1, .int 1 tf2]) :: (xo, instObj 287 dy) :: (dy, opsDict f1 f2 f3 f4 m1 m2 m3 m4 xs bp bi bq ndy) :: (bp, op) :: (bq, oq) :: (an, on) :: (at', ot) :: rr)
      (fun r led => ∃ tk, r = .str (Txt.join (Str.ofString "") (rend nb c (.lst (T0 :: Ts0)))) tk ∧ led = rr) := by
  unfold Does
  intro dp un gd cn cs fa ccd cl outer A₀ base h₀ L m s Q E B F X N Tp hk hd hu hret
  refine wpAny_call ?_
  k_dflt fold_lay
  k_steps
  obtain ⟨hfl, hfs⟩ := rend_ok (nb := nb) hs hl hok hlen
  have hfw := weight hfs
  have hsz0 := sizeL_le (T0 :: Ts0)
  rw [List.length_cons] at hsz0
  rename_i LO _ q1 _ _ _ _ D _ q2 LW _ q3 _ lF lN
  have hor : OwnOff rr [LW, LO, x, dx] := off_lt (by krn_off) (off_lt (by krn_off) ho)
  have hLO : @LT.lt Nat _ at' LO ∧ @LT.lt Nat _ LO LW ∧ @LT.lt Nat _ LO D ∧ @LT.lt Nat _ D LW ∧ @LT.lt Nat _ x D ∧ @LT.lt Nat _ dx D := by refine ⟨?_, ?_, ?_, ?_, ?_, ?_⟩ <;> omega
  refine whl_use (J := fun n m nx => ∃ O Os W S la ta c1 c2 rq, m (Str.ofString "self") = some (.ref x) ∧ StrsAre O Os ∧ TasksAre rq W S ∧ OkS Tx la S ∧ n = sizeS S ∧ n ≤ 400 ∧ Os ++ rendS nb c S = rend nb c (.lst (T0 :: Ts0)) ∧ OwnOff rq [LW, LO, x, dx] ∧ (∀ p ∈ rr, p ∈ rq) ∧ nx = (x, instObj 472 dx) :: (dx, dictOf [⟨h1, .str (Str.ofString "symbols") k1, .ref xs⟩, ⟨h2, .str (Str.ofString "operators") k2, .ref xo⟩, ⟨h3, .str (Str.ofString "quoted") k3, .bool true⟩, ⟨h4, .str (Str.ofString "ignore_ops") k4, .bool false⟩, ⟨h5, .str (Str.ofString "numbervars") k5, .bool nb⟩, ⟨h6, .str (Str.ofString "names") k6, .ref an⟩, ⟨h7, .str (Str.ofString "taken") k7, .ref at'⟩, ⟨h8, .str (Str.ofString "out") k8, .ref LO⟩, ⟨h9, .str (Str.ofString "last") k9, .str (la) ta⟩, ⟨h10, .str (Str.ofString "prefixed") k10, .bool false⟩, ⟨h11, .str (Str.ofString "work") k11, .ref LW⟩] 11) :: (LO, listOf (O).toArray c1) :: (LW, listOf (W.reverse).toArray c2) :: (xs, instObj 122 ds) :: (ds, symDict g1 g2 g3 g4 j1 j2 j3 j4 bt bn bf bg nds) :: (bt, listOf vT.toArray nt) :: (bf, listOf Fs.toArray nf) :: (k17, tupO [.int 26 tf1, .int 1 tf2]) :: (xo, instObj 287 dy) :: (dy, opsDict f1 f2 f3 f4 m1 m2 m3 m4 xs bp bi bq ndy) :: (bp, op) :: (bq, oq) :: (an, on) :: (at', ot) :: rq) lF lN (by first | passes_own | with_unfolding_all passes_own) ?turn ⟨sizeS [.lst (T0 :: Ts0)], (x, instObj 472 dx) :: (dx, dictOf [⟨h1, .str (Str.ofString "symbols") k1, .ref xs⟩, ⟨h2, .str (Str.ofString "operators") k2, .ref xo⟩, ⟨h3, .str (Str.ofString "quoted") k3, .bool true⟩, ⟨h4, .str (Str.ofString "ignore_ops") k4, .bool false⟩, ⟨h5, .str (Str.ofString "numbervars") k5, .bool nb⟩, ⟨h6, .str (Str.ofString "names") k6, .ref an⟩, ⟨h7, .str (Str.ofString "taken") k7, .ref at'⟩, ⟨h8, .str (Str.ofString "out") k8, .ref LO⟩, ⟨h9, .str (Str.ofString "last") k9, .str (Str.ofString "") _⟩, ⟨h10, .str (Str.ofString "prefixed") k10, .bool false⟩, ⟨h11, .str (Str.ofString "work") k11, .ref LW⟩] 11) :: (LO, listOf (([] : List Value)).toArray 0) :: (LW, listOf ([Value.ref D]).toArray 0) :: (xs, instObj 122 ds) :: (ds, symDict g1 g2 g3 g4 j1 j2 j3 j4 bt bn bf bg nds) :: (bt, listOf vT.toArray nt) :: (bf, listOf Fs.toArray nf) :: (k17, tupO [.int 26 tf1, .int 1 tf2]) :: (xo, instObj 287 dy) :: (dy, opsDict f1 f2 f3 f4 m1 m2 m3 m4 xs bp bi bq ndy) :: (bp, op) :: (bq, oq) :: (an, on) :: (at', ot) :: ((D, _) :: rr), (by (repeat (refine sub1 (by first | k_mem | fail) ?_)); intro p hp; (repeat (first | exact hp | apply List.Mem.tail))), ?init⟩
  case init =>
    refine ⟨[], [], [.ref D], [.lst (T0 :: Ts0)], Str.ofString "", _, 0, 0, _, rfl, .nil, .cons (.lst (.head _) (hc.mono fun p hp => .tail _ hp)) .nil, .lst (by unfold Lasts4; simp) hok hlen fun _ => .nil, rfl, ?_, by unfold rendS; simp, off_cons (by simp only [NeAll, and_true]; omega) hor, (fun p hp => .tail _ hp), rfl⟩
    rw [size_cons]; simp only [sizeK]; unfold sizeS; simp; omega
  case turn =>
    intro n m nx h tk hJ F N
    obtain ⟨O, Os, W, S, la, ta, c1, c2, rq, hm1, hO, hT, hS, hn, hn4, hfin, hoq, hrq, hnx⟩ := hJ
    rw [name_form hm1] at F
    subst hnx
    have hOl : O.length ≤ 300 := by
      have := congrArg List.length hfin
      rw [List.length_append] at this
      rw [hO.length]; omega
    cases hT with
    | nil =>
      have hfin' : Os = rend nb c (.lst (T0 :: Ts0)) := by rw [← hfin]; unfold rendS; simp
      have hw : (Os.map (·.length)).sum + Os.length ≤ 1048576 := by rw [hfin']; omega
      k_steps
      rename_i kF kN _ _
      exact hret _ _ _ _ ⟨_, str_eqv (by rw [hfin']), rfl⟩ kF (cb_drop kN fun p hp => by have hp := hrq p hp; (repeat (first | exact hp | apply List.Mem.tail)))
    | @cons v t W S hT1 hT2 =>
      rw [List.reverse_cons] at N
      have hWl := hT2.length
      have hWz := len_size _ |> Nat.le_trans (Nat.le_of_eq hWl)
      have hns := hn
      rw [size_cons] at hns
      have hW4 : W.length ≤ 400 := by omega
      cases hS with
      | @raw _ sx _ sh1 sh2 hS =>
        cases hT1 with
        | raw hm =>
          have sh3 := str_ne sh1
          have sh4 : sx.length ≤ 1000 := by omega
          k_steps
          rename Fr _ _ _ _ => lF
          rename News _ _ _ _ => lN
          refine whl_stop ((x, instObj 472 dx) :: (dx, dictOf [⟨h1, .str (Str.ofString "symbols") k1, .ref xs⟩, ⟨h2, .str (Str.ofString "operators") k2, .ref xo⟩, ⟨h3, .str (Str.ofString "quoted") k3, .bool true⟩, ⟨h4, .str (Str.ofString "ignore_ops") k4, .bool false⟩, ⟨h5, .str (Str.ofString "numbervars") k5, .bool nb⟩, ⟨h6, .str (Str.ofString "names") k6, .ref an⟩, ⟨h7, .str (Str.ofString "taken") k7, .ref at'⟩, ⟨h8, .str (Str.ofString "out") k8, .ref LO⟩, ⟨h9, .str (Str.ofString "last") k9, .str (lastOf sx) _⟩, ⟨h10, .str (Str.ofString "prefixed") k10, .bool false⟩, ⟨h11, .str (Str.ofString "work") k11, .ref LW⟩] 11) :: (LO, listOf (O ++ [Value.str (sx) _]).toArray _) :: (LW, listOf (W.reverse).toArray _) :: (xs, instObj 122 ds) :: (ds, symDict g1 g2 g3 g4 j1 j2 j3 j4 bt bn bf bg nds) :: (bt, listOf vT.toArray nt) :: (bf, listOf Fs.toArray nf) :: (k17, tupO [.int 26 tf1, .int 1 tf2]) :: (xo, instObj 287 dy) :: (dy, opsDict f1 f2 f3 f4 m1 m2 m3 m4 xs bp bi bq ndy) :: (bp, op) :: (bq, oq) :: (an, on) :: (at', ot) :: rq) lF lN (by (repeat (refine sub1 (by first | k_mem | fail) ?_)); intro p hp; (repeat (first | exact hp | apply List.Mem.tail))) ⟨sizeS S, by rw [hn, size_cons]; have := size_pos (.raw sx); omega, O ++ [_], Os ++ [sx], W, S, lastOf sx, _, _, _, rq, rfl, PyProof.Rows.StrsAre.append' hO (.cons _ _ .nil), hT2, hS, rfl, by omega, ?fin0, hoq, hrq, rfl⟩
          case fin0 => rw [← hfin, rendS_cons]; simp [rend, outT]
      | @term _ T _ hla hok hS =>
        cases hT1 with
        | term hm hTm =>
          k_steps
          cases hok with
          | @v kv hk0 hk3 =>
            cases hTm with
            | v hm2 =>
              have hTv : TermIs rq _ (.v kv) := .v hm2
              ((first | unfold Stop | unfold Stop2); k_dflt (refine' does_use ?Bx1 ?Fx1 ?Xx1 ?Nx1 ?Tx1 ?hkx1 (wv_spec ?a1x1 ?a2x1 ?a3x1 ?a4x1 ?a5x1 ?a6x1 ?a7x1 ?a8x1 ?a9x1 ?a10x1 ?a11x1 ?a12x1 ?a13x1 ?a14x1 ?a15x1) ?pkx1 ?hdx1 ?hux1 ?_; (case Bx1 => k_asm); (case Fx1 => k_asm); (case Xx1 => k_asm); (case Nx1 => k_asm); (case Tx1 => k_asm); (case hkx1 => first | exact rfl | assumption); (case pkx1 => (refine' Pk.cons ?q1x1 (Pk.cons ?q2x1 (Pk.cons ?q3x1 (Pk.cons ?q4x1 (Pk.cons ?q5x1 Pk.nil)))); (case q1x1 => kbt_split); (case q2x1 => kbt_split); (case q3x1 => kbt_split); (case q4x1 => kbt_split); (case q5x1 => kbt_split))); (case a1x1 => assumption); (case a2x1 => assumption); (case a3x1 => k_asm); (case a4x1 => assumption); (case a5x1 => assumption); (case a6x1 => k_asm); (case a7x1 => assumption); (case a8x1 => assumption); (case a9x1 => assumption); (case a10x1 => assumption); (case a11x1 => assumption); (case a12x1 => omega); (case a13x1 => exact TermIs.mono (by assumption) (by ksw_less)); (case a14x1 => tlg_ne); (case a15x1 => omega); (case hdx1 => ktr_room); (case hux1 => ktr_units)); intro r9 n9 hz9 tz9 p9 F9 N9; (obtain ⟨no9, ta9, tb9, hr9, hled9⟩ := p9); (subst hr9); (subst hled9); (try dsimp only))
              k_steps
              rename Fr _ _ _ _ => lF
              rename News _ _ _ _ => lN
              refine whl_stop ((x, instObj 472 dx) :: (dx, dictOf [⟨h1, .str (Str.ofString "symbols") k1, .ref xs⟩, ⟨h2, .str (Str.ofString "operators") k2, .ref xo⟩, ⟨h3, .str (Str.ofString "quoted") k3, .bool true⟩, ⟨h4, .str (Str.ofString "ignore_ops") k4, .bool false⟩, ⟨h5, .str (Str.ofString "numbervars") k5, .bool nb⟩, ⟨h6, .str (Str.ofString "names") k6, .ref an⟩, ⟨h7, .str (Str.ofString "taken") k7, .ref at'⟩, ⟨h8, .str (Str.ofString "out") k8, .ref LO⟩, ⟨h9, .str (Str.ofString "last") k9, .str (lastOf (nameT c kv)) _⟩, ⟨h10, .str (Str.ofString "prefixed") k10, .bool false⟩, ⟨h11, .str (Str.ofString "work") k11, .ref LW⟩] 11) :: (LO, listOf (O ++ [Value.str (nameT c kv) _]).toArray _) :: (LW, listOf (W.reverse).toArray _) :: (xs, instObj 122 ds) :: (ds, symDict g1 g2 g3 g4 j1 j2 j3 j4 bt bn bf bg nds) :: (bt, listOf vT.toArray nt) :: (bf, listOf Fs.toArray nf) :: (k17, tupO [.int 26 tf1, .int 1 tf2]) :: (xo, instObj 287 dy) :: (dy, opsDict f1 f2 f3 f4 m1 m2 m3 m4 xs bp bi bq ndy) :: (bp, op) :: (bq, oq) :: (an, on) :: (at', ot) :: rq) lF lN (by (repeat (refine sub1 (by first | k_mem | fail) ?_)); intro p hp; (repeat (first | exact hp | apply List.Mem.tail))) ⟨sizeS S, by have := size_pos (.term (.v kv)); omega, O ++ [_], Os ++ [nameT c kv], W, S, lastOf (nameT c kv), _, _, _, rq, rfl, PyProof.Rows.StrsAre.append' hO (.cons _ _ .nil), hT2, hS _, rfl, by omega, ?fin1, hoq, hrq, rfl⟩
              case fin1 => rw [← hfin, rendS_cons]; simp [rend, outT]
          | arg hA =>
            cases hA with
            | @i f hf =>
              cases hTm with
              | i hm2 =>
                have hTv : TermIs rq _ (.i f) := .i hm2
                ((first | unfold Stop | unfold Stop2); k_dflt (refine' does_use ?Bx2 ?Fx2 ?Xx2 ?Nx2 ?Tx2 ?hkx2 (wi_spec ?a1x2 ?a2x2 ?a3x2 ?a4x2 ?a5x2 ?a6x2) ?pkx2 ?hdx2 ?hux2 ?_; (case Bx2 => k_asm); (case Fx2 => k_asm); (case Xx2 => k_asm); (case Nx2 => k_asm); (case Tx2 => k_asm); (case hkx2 => first | exact rfl | assumption); (case pkx2 => (refine' Pk.cons ?q1x2 (Pk.cons ?q2x2 (Pk.cons ?q3x2 Pk.nil)); (case q1x2 => kbt_split); (case q2x2 => kbt_split); (case q3x2 => kbt_split))); (case a1x2 => assumption); (case a2x2 => assumption); (case a3x2 => omega); (case a4x2 => exact TermIs.mono (by assumption) (by ksw_less)); (case a5x2 => tlg_ne); (case a6x2 => omega); (case hdx2 => ktr_room); (case hux2 => ktr_units)); intro r9 n9 hz9 tz9 p9 F9 N9; (obtain ⟨no9, ta9, tb9, hr9, hled9⟩ := p9); (subst hr9); (subst hled9); (try dsimp only))
                k_steps
                rename Fr _ _ _ _ => lF
                rename News _ _ _ _ => lN
                refine whl_stop ((x, instObj 472 dx) :: (dx, dictOf [⟨h1, .str (Str.ofString "symbols") k1, .ref xs⟩, ⟨h2, .str (Str.ofString "operators") k2, .ref xo⟩, ⟨h3, .str (Str.ofString "quoted") k3, .bool true⟩, ⟨h4, .str (Str.ofString "ignore_ops") k4, .bool false⟩, ⟨h5, .str (Str.ofString "numbervars") k5, .bool nb⟩, ⟨h6, .str (Str.ofString "names") k6, .ref an⟩, ⟨h7, .str (Str.ofString "taken") k7, .ref at'⟩, ⟨h8, .str (Str.ofString "out") k8, .ref LO⟩, ⟨h9, .str (Str.ofString "last") k9, .str (lastOf (numT f)) _⟩, ⟨h10, .str (Str.ofString "prefixed") k10, .bool false⟩, ⟨h11, .str (Str.ofString "work") k11, .ref LW⟩] 11) :: (LO, listOf (O ++ [Value.str (numT f) _]).toArray _) :: (LW, listOf (W.reverse).toArray _) :: (xs, instObj 122 ds) :: (ds, symDict g1 g2 g3 g4 j1 j2 j3 j4 bt bn bf bg nds) :: (bt, listOf vT.toArray nt) :: (bf, listOf Fs.toArray nf) :: (k17, tupO [.int 26 tf1, .int 1 tf2]) :: (xo, instObj 287 dy) :: (dy, opsDict f1 f2 f3 f4 m1 m2 m3 m4 xs bp bi bq ndy) :: (bp, op) :: (bq, oq) :: (an, on) :: (at', ot) :: rq) lF lN (by (repeat (refine sub1 (by first | k_mem | fail) ?_)); intro p hp; (repeat (first | exact hp | apply List.Mem.tail))) ⟨sizeS S, by have := size_pos (.term (.i f)); omega, O ++ [_], Os ++ [numT f], W, S, lastOf (numT f), _, _, _, rq, rfl, PyProof.Rows.StrsAre.append' hO (.cons _ _ .nil), hT2, hS _, rfl, by omega, ?fin2, hoq, hrq, rfl⟩
                case fin2 => rw [← hfin, rendS_cons]; simp [rend, outT]
            | @a nn hn0 hn1 hTn =>
              cases hTm with
              | a hm2 =>
                have hTv : TermIs rq _ (.a nn) := .a hm2
                ((first | unfold Stop | unfold Stop2); k_dflt (refine' does_use ?Bx3 ?Fx3 ?Xx3 ?Nx3 ?Tx3 ?hkx3 (wa_spec ?a1x3 ?a2x3 ?a3x3 ?a4x3 ?a5x3 ?a6x3 ?a7x3 ?a8x3 ?a9x3) ?pkx3 ?hdx3 ?hux3 ?_; (case Bx3 => k_asm); (case Fx3 => k_asm); (case Xx3 => k_asm); (case Nx3 => k_asm); (case Tx3 => k_asm); (case hkx3 => first | exact rfl | assumption); (case pkx3 => (refine' Pk.cons ?q1x3 (Pk.cons ?q2x3 (Pk.cons ?q3x3 (Pk.cons ?q4x3 (Pk.cons ?q5x3 (Pk.cons ?q6x3 Pk.nil))))); (case q1x3 => kbt_split); (case q2x3 => kbt_split); (case q3x3 => kbt_split); (case q4x3 => kbt_split); (case q5x3 => kbt_split); (case q6x3 => kbt_split))); (case a1x3 => assumption); (case a2x3 => assumption); (case a3x3 => assumption); (case a4x3 => assumption); (case a5x3 => assumption); (case a6x3 => omega); (case a7x3 => exact TermIs.mono (by assumption) (by ksw_less)); (case a8x3 => tlg_ne); (case a9x3 => omega); (case hdx3 => ktr_room); (case hux3 => ktr_units)); intro r9 n9 hz9 tz9 p9 F9 N9; (obtain ⟨no9, ta9, tb9, hr9, hled9⟩ := p9); (subst hr9); (subst hled9); (try dsimp only))
                k_steps
                rename Fr _ _ _ _ => lF
                rename News _ _ _ _ => lN
                refine whl_stop ((x, instObj 472 dx) :: (dx, dictOf [⟨h1, .str (Str.ofString "symbols") k1, .ref xs⟩, ⟨h2, .str (Str.ofString "operators") k2, .ref xo⟩, ⟨h3, .str (Str.ofString "quoted") k3, .bool true⟩, ⟨h4, .str (Str.ofString "ignore_ops") k4, .bool false⟩, ⟨h5, .str (Str.ofString "numbervars") k5, .bool nb⟩, ⟨h6, .str (Str.ofString "names") k6, .ref an⟩, ⟨h7, .str (Str.ofString "taken") k7, .ref at'⟩, ⟨h8, .str (Str.ofString "out") k8, .ref LO⟩, ⟨h9, .str (Str.ofString "last") k9, .str (lastOf (atomT (Str.ofString "k"))) _⟩, ⟨h10, .str (Str.ofString "prefixed") k10, .bool false⟩, ⟨h11, .str (Str.ofString "work") k11, .ref LW⟩] 11) :: (LO, listOf (O ++ [Value.str (atomT (Str.ofString "k")) _]).toArray _) :: (LW, listOf (W.reverse).toArray _) :: (xs, instObj 122 ds) :: (ds, symDict g1 g2 g3 g4 j1 j2 j3 j4 bt bn bf bg nds) :: (bt, listOf vT.toArray nt) :: (bf, listOf Fs.toArray nf) :: (k17, tupO [.int 26 tf1, .int 1 tf2]) :: (xo, instObj 287 dy) :: (dy, opsDict f1 f2 f3 f4 m1 m2 m3 m4 xs bp bi bq ndy) :: (bp, op) :: (bq, oq) :: (an, on) :: (at', ot) :: rq) lF lN (by (repeat (refine sub1 (by first | k_mem | fail) ?_)); intro p hp; (repeat (first | exact hp | apply List.Mem.tail))) ⟨sizeS S, by have := size_pos (.term (.a nn)); omega, O ++ [_], Os ++ [atomT (Str.ofString "k")], W, S, lastOf (atomT (Str.ofString "k")), _, _, _, rq, rfl, PyProof.Rows.StrsAre.append' hO (.cons _ _ .nil), hT2, hS _, rfl, by omega, ?fin3, hoq, hrq, rfl⟩
                case fin3 => rw [← hfin, rendS_cons]; simp [rend, outT]
          | @fi f hf =>
            have hTv := hTm
            cases hTm with
            | fn hm2 hm3 hTm =>
              by_cases hcn : nb = true ∧ 0 ≤ f
              · have hfp := figs_pos hf hcn.2
                have hnb := hcn.1
                ((first | unfold Stop | unfold Stop2); k_dflt (refine' does_use ?Bx4 ?Fx4 ?Xx4 ?Nx4 ?Tx4 ?hkx4 (wn_spec ?a1x4 ?a2x4 ?a3x4 ?a4x4 ?a5x4 ?a6x4 ?a7x4) ?pkx4 ?hdx4 ?hux4 ?_; (case Bx4 => k_asm); (case Fx4 => k_asm); (case Xx4 => k_asm); (case Nx4 => k_asm); (case Tx4 => k_asm); (case hkx4 => first | exact rfl | assumption); (case pkx4 => (refine' Pk.cons ?q1x4 (Pk.cons ?q2x4 (Pk.cons ?q3x4 Pk.nil)); (case q1x4 => kbt_split); (case q2x4 => kbt_split); (case q3x4 => kbt_split))); (case a1x4 => assumption); (case a2x4 => assumption); (case a3x4 => assumption); (case a4x4 => omega); (case a5x4 => exact TermIs.mono (by assumption) (by ksw_less)); (case a6x4 => tlg_ne); (case a7x4 => omega); (case hdx4 => ktr_room); (case hux4 => ktr_units)); intro r9 n9 hz9 tz9 p9 F9 N9; (obtain ⟨no9, ta9, tb9, hr9, hled9⟩ := p9); (subst hr9); (subst hled9); (try dsimp only))
                k_steps
                rename Fr _ _ _ _ => lF
                rename News _ _ _ _ => lN
                refine whl_stop ((x, instObj 472 dx) :: (dx, dictOf [⟨h1, .str (Str.ofString "symbols") k1, .ref xs⟩, ⟨h2, .str (Str.ofString "operators") k2, .ref xo⟩, ⟨h3, .str (Str.ofString "quoted") k3, .bool true⟩, ⟨h4, .str (Str.ofString "ignore_ops") k4, .bool false⟩, ⟨h5, .str (Str.ofString "numbervars") k5, .bool nb⟩, ⟨h6, .str (Str.ofString "names") k6, .ref an⟩, ⟨h7, .str (Str.ofString "taken") k7, .ref at'⟩, ⟨h8, .str (Str.ofString "out") k8, .ref LO⟩, ⟨h9, .str (Str.ofString "last") k9, .str (lastOf (varT f)) _⟩, ⟨h10, .str (Str.ofString "prefixed") k10, .bool false⟩, ⟨h11, .str (Str.ofString "work") k11, .ref LW⟩] 11) :: (LO, listOf (O ++ [Value.str (varT f) _]).toArray _) :: (LW, listOf (W.reverse).toArray _) :: (xs, instObj 122 ds) :: (ds, symDict g1 g2 g3 g4 j1 j2 j3 j4 bt bn bf bg nds) :: (bt, listOf vT.toArray nt) :: (bf, listOf Fs.toArray nf) :: (k17, tupO [.int 26 tf1, .int 1 tf2]) :: (xo, instObj 287 dy) :: (dy, opsDict f1 f2 f3 f4 m1 m2 m3 m4 xs bp bi bq ndy) :: (bp, op) :: (bq, oq) :: (an, on) :: (at', ot) :: rq) lF lN (by (repeat (refine sub1 (by first | k_mem | fail) ?_)); intro p hp; (repeat (first | exact hp | apply List.Mem.tail))) ⟨sizeS S, by have := size_pos (.term (.fn (.i f))); omega, O ++ [_], Os ++ [varT f], W, S, lastOf (varT f), _, _, _, rq, rfl, PyProof.Rows.StrsAre.append' hO (.cons _ _ .nil), hT2, hS _, rfl, by omega, ?fin4, hoq, hrq, rfl⟩
                case fin4 => rw [← hfin, rendS_cons]; simp [rend, outT, hcn]
              · have hNN : NotNum nb (.i f) := by
                  cases hb : nb with
                  | false => exact .inl rfl
                  | true => exact .inr (.inl ⟨f, rfl, by have : ¬ 0 ≤ f := fun h => hcn ⟨hb, h⟩; omega⟩)
                ((first | unfold Stop | unfold Stop2); k_dflt (refine' does_use ?Bx5 ?Fx5 ?Xx5 ?Nx5 ?Tx5 ?hkx5 (wf_spec ?a1x5 ?a2x5 ?a3x5 ?a4x5 ?a5x5 ?a6x5 ?a7x5 ?a8x5 ?a9x5 ?a10x5 ?a11x5 ?a12x5 ?a13x5 ?a14x5 ?a15x5 ?a16x5) ?pkx5 ?hdx5 ?hux5 ?_; (case Bx5 => k_asm); (case Fx5 => k_asm); (case Xx5 => k_asm); (case Nx5 => k_asm); (case Tx5 => k_asm); (case hkx5 => first | exact rfl | assumption); (case pkx5 => (refine' Pk.cons ?q1x5 (Pk.cons ?q2x5 (Pk.cons ?q3x5 (Pk.cons ?q4x5 (Pk.cons ?q5x5 (Pk.cons ?q6x5 (Pk.cons ?q7x5 (Pk.cons ?q8x5 (Pk.cons ?q9x5 (Pk.cons ?q10x5 (Pk.cons ?q11x5 (Pk.cons ?q12x5 (Pk.cons ?q13x5 Pk.nil)))))))))))); (case q1x5 => kbt_split); (case q2x5 => kbt_split); (case q3x5 => kbt_split); (case q4x5 => kbt_split); (case q5x5 => kbt_split); (case q6x5 => kbt_split); (case q7x5 => kbt_split); (case q8x5 => kbt_split); (case q9x5 => kbt_split); (case q10x5 => kbt_split); (case q11x5 => kbt_split); (case q12x5 => kbt_split); (case q13x5 => kbt_split))); (case a1x5 => assumption); (case a2x5 => assumption); (case a3x5 => assumption); (case a4x5 => k_asm); (case a5x5 => assumption); (case a6x5 => k_asm); (case a7x5 => assumption); (case a8x5 => assumption); (case a9x5 => assumption); (case a10x5 => assumption); (case a11x5 => ksw_less); (case a12x5 => assumption); (case a13x5 => omega); (case a14x5 => (simp only [List.length_reverse]; omega)); (case a15x5 => tlg_ne); (case a16x5 => omega); (case hdx5 => ktr_room); (case hux5 => ktr_units)); intro r9 n9 hz9 tz9 p9 F9 N9; (obtain ⟨R9, n8, no9, ta9, tb9, rl9, hr9, hT9, ho9, hA9, hled9⟩ := p9); (subst hr9); (subst hled9); (try dsimp only))
                k_steps
                rename Fr _ _ _ _ => lF
                rename News _ _ _ _ => lN
                rw [← List.reverse_append] at lN
                refine whl_stop ((x, instObj 472 dx) :: (dx, dictOf [⟨h1, .str (Str.ofString "symbols") k1, .ref xs⟩, ⟨h2, .str (Str.ofString "operators") k2, .ref xo⟩, ⟨h3, .str (Str.ofString "quoted") k3, .bool true⟩, ⟨h4, .str (Str.ofString "ignore_ops") k4, .bool false⟩, ⟨h5, .str (Str.ofString "numbervars") k5, .bool nb⟩, ⟨h6, .str (Str.ofString "names") k6, .ref an⟩, ⟨h7, .str (Str.ofString "taken") k7, .ref at'⟩, ⟨h8, .str (Str.ofString "out") k8, .ref LO⟩, ⟨h9, .str (Str.ofString "last") k9, .str (lastOf (atomT (Str.ofString "$VAR"))) _⟩, ⟨h10, .str (Str.ofString "prefixed") k10, .bool false⟩, ⟨h11, .str (Str.ofString "work") k11, .ref LW⟩] 11) :: (LO, listOf (O ++ [Value.str (atomT (Str.ofString "$VAR")) _]).toArray _) :: (LW, listOf ((R9 ++ W).reverse).toArray _) :: (xs, instObj 122 ds) :: (ds, symDict g1 g2 g3 g4 j1 j2 j3 j4 bt bn bf bg nds) :: (bt, listOf vT.toArray nt) :: (bf, listOf Fs.toArray nf) :: (k17, tupO [.int 26 tf1, .int 1 tf2]) :: (xo, instObj 287 dy) :: (dy, opsDict f1 f2 f3 f4 m1 m2 m3 m4 xs bp bi bq ndy) :: (bp, op) :: (bq, oq) :: (an, on) :: (at', ot) :: (rl9 ++ rq)) lF lN (by (repeat (refine sub1 (by first | k_mem | fail) ?_)); intro p hp; (have hp := app_perm p hp); (repeat (first | exact hp | apply List.Mem.tail))) ⟨sizeS ([.raw (Str.ofString "("), .term (.i f), .raw (Str.ofString ")")] ++ S), ?lt5, O ++ [_], Os ++ [atomT (Str.ofString "$VAR")], R9 ++ W, [.raw (Str.ofString "("), .term (.i f), .raw (Str.ofString ")")] ++ S, lastOf (atomT (Str.ofString "$VAR")), _, _, _, rl9 ++ rq, rfl, PyProof.Rows.StrsAre.append' hO (.cons _ _ .nil), TasksAre.append hT9 (hT2.mono app_right), ok_fn (.arg (.i (figs_nums hf))) hS, rfl, ?le5, ?fin5, off_append (off_sub ho9 (by simp)) hoq, fun p hp => List.mem_append_right _ (hrq p hp), rfl⟩
                case lt5 => (rw [size_app]; simp only [sizeK, sizeT] at hns; (have h7 : sizeS [Task.raw (Str.ofString "("), .term (.i f), .raw (Str.ofString ")")] = 3 := rfl); omega)
                case le5 => (rw [size_app]; simp only [sizeK, sizeT] at hns; (have h7 : sizeS [Task.raw (Str.ofString "("), .term (.i f), .raw (Str.ofString ")")] = 3 := rfl); omega)
                case fin5 => (rw [← hfin, rendS_cons]; simp [rend, outT, hcn, rendS])
          | @fa nn hA =>
            have hTv := hTm
            cases hTm with
            | fn hm2 hm3 hTm =>
              have hNN : NotNum nb (.a nn) := .inr (.inr ⟨nn, rfl⟩)
              ((first | unfold Stop | unfold Stop2); k_dflt (refine' does_use ?Bx6 ?Fx6 ?Xx6 ?Nx6 ?Tx6 ?hkx6 (wf_spec ?a1x6 ?a2x6 ?a3x6 ?a4x6 ?a5x6 ?a6x6 ?a7x6 ?a8x6 ?a9x6 ?a10x6 ?a11x6 ?a12x6 ?a13x6 ?a14x6 ?a15x6 ?a16x6) ?pkx6 ?hdx6 ?hux6 ?_; (case Bx6 => k_asm); (case Fx6 => k_asm); (case Xx6 => k_asm); (case Nx6 => k_asm); (case Tx6 => k_asm); (case hkx6 => first | exact rfl | assumption); (case pkx6 => (refine' Pk.cons ?q1x6 (Pk.cons ?q2x6 (Pk.cons ?q3x6 (Pk.cons ?q4x6 (Pk.cons ?q5x6 (Pk.cons ?q6x6 (Pk.cons ?q7x6 (Pk.cons ?q8x6 (Pk.cons ?q9x6 (Pk.cons ?q10x6 (Pk.cons ?q11x6 (Pk.cons ?q12x6 (Pk.cons ?q13x6 Pk.nil)))))))))))); (case q1x6 => kbt_split); (case q2x6 => kbt_split); (case q3x6 => kbt_split); (case q4x6 => kbt_split); (case q5x6 => kbt_split); (case q6x6 => kbt_split); (case q7x6 => kbt_split); (case q8x6 => kbt_split); (case q9x6 => kbt_split); (case q10x6 => kbt_split); (case q11x6 => kbt_split); (case q12x6 => kbt_split); (case q13x6 => kbt_split))); (case a1x6 => assumption); (case a2x6 => assumption); (case a3x6 => assumption); (case a4x6 => k_asm); (case a5x6 => assumption); (case a6x6 => k_asm); (case a7x6 => assumption); (case a8x6 => assumption); (case a9x6 => assumption); (case a10x6 => assumption); (case a11x6 => ksw_less); (case a12x6 => assumption); (case a13x6 => omega); (case a14x6 => (simp only [List.length_reverse]; omega)); (case a15x6 => tlg_ne); (case a16x6 => omega); (case hdx6 => ktr_room); (case hux6 => ktr_units)); intro r9 n9 hz9 tz9 p9 F9 N9; (obtain ⟨R9, n8, no9, ta9, tb9, rl9, hr9, hT9, ho9, hA9, hled9⟩ := p9); (subst hr9); (subst hled9); (try dsimp only))
              k_steps
              rename Fr _ _ _ _ => lF
              rename News _ _ _ _ => lN
              rw [← List.reverse_append] at lN
              refine whl_stop ((x, instObj 472 dx) :: (dx, dictOf [⟨h1, .str (Str.ofString "symbols") k1, .ref xs⟩, ⟨h2, .str (Str.ofString "operators") k2, .ref xo⟩, ⟨h3, .str (Str.ofString "quoted") k3, .bool true⟩, ⟨h4, .str (Str.ofString "ignore_ops") k4, .bool false⟩, ⟨h5, .str (Str.ofString "numbervars") k5, .bool nb⟩, ⟨h6, .str (Str.ofString "names") k6, .ref an⟩, ⟨h7, .str (Str.ofString "taken") k7, .ref at'⟩, ⟨h8, .str (Str.ofString "out") k8, .ref LO⟩, ⟨h9, .str (Str.ofString "last") k9, .str (lastOf (atomT (Str.ofString "$VAR"))) _⟩, ⟨h10, .str (Str.ofString "prefixed") k10, .bool false⟩, ⟨h11, .str (Str.ofString "work") k11, .ref LW⟩] 11) :: (LO, listOf (O ++ [Value.str (atomT (Str.ofString "$VAR")) _]).toArray _) :: (LW, listOf ((R9 ++ W).reverse).toArray _) :: (xs, instObj 122 ds) :: (ds, symDict g1 g2 g3 g4 j1 j2 j3 j4 bt bn bf bg nds) :: (bt, listOf vT.toArray nt) :: (bf, listOf Fs.toArray nf) :: (k17, tupO [.int 26 tf1, .int 1 tf2]) :: (xo, instObj 287 dy) :: (dy, opsDict f1 f2 f3 f4 m1 m2 m3 m4 xs bp bi bq ndy) :: (bp, op) :: (bq, oq) :: (an, on) :: (at', ot) :: (rl9 ++ rq)) lF lN (by (repeat (refine sub1 (by first | k_mem | fail) ?_)); intro p hp; (have hp := app_perm p hp); (repeat (first | exact hp | apply List.Mem.tail))) ⟨sizeS ([.raw (Str.ofString "("), .term (.a nn), .raw (Str.ofString ")")] ++ S), ?lt6, O ++ [_], Os ++ [atomT (Str.ofString "$VAR")], R9 ++ W, [.raw (Str.ofString "("), .term (.a nn), .raw (Str.ofString ")")] ++ S, lastOf (atomT (Str.ofString "$VAR")), _, _, _, rl9 ++ rq, rfl, PyProof.Rows.StrsAre.append' hO (.cons _ _ .nil), TasksAre.append hT9 (hT2.mono app_right), ok_fn (.arg hA) hS, rfl, ?le6, ?fin6, off_append (off_sub ho9 (by simp)) hoq, fun p hp => List.mem_append_right _ (hrq p hp), rfl⟩
              case lt6 => (rw [size_app]; simp only [sizeK, sizeT] at hns; (have h7 : sizeS [Task.raw (Str.ofString "("), .term (.a nn), .raw (Str.ofString ")")] = 3 := rfl); omega)
              case le6 => (rw [size_app]; simp only [sizeK, sizeT] at hns; (have h7 : sizeS [Task.raw (Str.ofString "("), .term (.a nn), .raw (Str.ofString ")")] = 3 := rfl); omega)
              case fin6 => (rw [← hfin, rendS_cons]; simp [rend, outT, rendS])
      | @lst _ T Ts _ hla hok hlen hS =>
        cases hT1 with
        | lst hm hch =>
          have hch0 := hch
          cases hch with
          | cons hm2 hm3 hTm hch =>
            k_steps
            ((first | unfold Stop | unfold Stop2); k_dflt (refine' does_use ?Bx7 ?Fx7 ?Xx7 ?Nx7 ?Tx7 ?hkx7 (wl_spec ?a1x7 ?a2x7 ?a3x7 ?a4x7 ?a5x7 ?a6x7 ?a7x7 ?a8x7) ?pkx7 ?hdx7 ?hux7 ?_; (case Bx7 => k_asm); (case Fx7 => k_asm); (case Xx7 => k_asm); (case Nx7 => k_asm); (case Tx7 => k_asm); (case hkx7 => first | exact rfl | assumption); (case pkx7 => (refine' Pk.cons ?q1x7 (Pk.cons ?q2x7 (Pk.cons ?q3x7 (Pk.cons ?q4x7 Pk.nil))); (case q1x7 => kbt_split); (case q2x7 => kbt_split); (case q3x7 => kbt_split); (case q4x7 => kbt_split))); (case a1x7 => assumption); (case a2x7 => omega); (case a3x7 => (simp only [List.length_reverse]; omega)); (case a4x7 => assumption); (case a5x7 => ksw_less); (case a6x7 => (simp only [List.length_cons]; omega)); (case a7x7 => tlg_ne); (case a8x7 => omega); (case hdx7 => ktr_room); (case hux7 => ktr_units)); intro r9 n9 hz9 tz9 p9 F9 N9; (obtain ⟨R9, n8, no9, ta9, tb9, rl9, hr9, hT9, ho9, hA9, hled9⟩ := p9); (subst hr9); (subst hled9); (try dsimp only))
            k_steps
            rename Fr _ _ _ _ => lF
            rename News _ _ _ _ => lN
            rw [← List.reverse_append] at lN
            refine whl_stop ((x, instObj 472 dx) :: (dx, dictOf [⟨h1, .str (Str.ofString "symbols") k1, .ref xs⟩, ⟨h2, .str (Str.ofString "operators") k2, .ref xo⟩, ⟨h3, .str (Str.ofString "quoted") k3, .bool true⟩, ⟨h4, .str (Str.ofString "ignore_ops") k4, .bool false⟩, ⟨h5, .str (Str.ofString "numbervars") k5, .bool nb⟩, ⟨h6, .str (Str.ofString "names") k6, .ref an⟩, ⟨h7, .str (Str.ofString "taken") k7, .ref at'⟩, ⟨h8, .str (Str.ofString "out") k8, .ref LO⟩, ⟨h9, .str (Str.ofString "last") k9, .str (Str.ofString "[") _⟩, ⟨h10, .str (Str.ofString "prefixed") k10, .bool false⟩, ⟨h11, .str (Str.ofString "work") k11, .ref LW⟩] 11) :: (LO, listOf (O ++ [Value.str (Str.ofString "[") _]).toArray _) :: (LW, listOf ((R9 ++ W).reverse).toArray _) :: (xs, instObj 122 ds) :: (ds, symDict g1 g2 g3 g4 j1 j2 j3 j4 bt bn bf bg nds) :: (bt, listOf vT.toArray nt) :: (bf, listOf Fs.toArray nf) :: (k17, tupO [.int 26 tf1, .int 1 tf2]) :: (xo, instObj 287 dy) :: (dy, opsDict f1 f2 f3 f4 m1 m2 m3 m4 xs bp bi bq ndy) :: (bp, op) :: (bq, oq) :: (an, on) :: (at', ot) :: (rl9 ++ rq)) lF lN (by (repeat (refine sub1 (by first | k_mem | fail) ?_)); intro p hp; (have hp := app_permG (A := [_, _, _, _, _, _, _, _, _, _, _]) p hp); (repeat (first | exact hp | apply List.Mem.tail))) ⟨sizeS ((tasksOf (T :: Ts) ++ [.raw (Str.ofString "]")]) ++ S), ?lt7, O ++ [_], Os ++ [Str.ofString "["], R9 ++ W, (tasksOf (T :: Ts) ++ [.raw (Str.ofString "]")]) ++ S, Str.ofString "[", _, _, _, rl9 ++ rq, rfl, PyProof.Rows.StrsAre.append' hO (.cons _ _ .nil), TasksAre.append hT9 (hT2.mono app_right), (by rw [List.append_assoc]; exact ok_lst hok hS), rfl, ?le7, ?fin7, off_append (off_sub ho9 (by simp)) hoq, fun p hp => List.mem_append_right _ (hrq p hp), rfl⟩
            case lt7 => (rw [size_app, size_app]; (have h7 := size_tasks (T :: Ts)); (have h8 : sizeS [Task.raw (Str.ofString "]")] = 1 := rfl); simp only [sizeK] at hns; omega)
            case le7 => (rw [size_app, size_app]; (have h7 := size_tasks (T :: Ts)); (have h8 : sizeS [Task.raw (Str.ofString "]")] = 1 := rfl); simp only [sizeK] at hns; omega)
            case fin7 => rw [← hfin, ← rendS_lst]; simp

end Mine
end
section
-- part E12
open PySem PySem.W PySem.Calls PyProof.Rows PyProof.V PySem.Spec
namespace Mine
local macro_rules | `(tactic| krn_off) => `(tactic| first | with_reducible assumption | exact allLt_of (by with_reducible assumption) | exact And.right (by with_reducible assumption) | exact And.right (And.right (by with_reducible assumption)) | exact And.right (And.right (And.right (by with_reducible assumption))) | exact And.right (And.right (And.right (And.right (by with_reducible assumption)))) | exact And.right (And.right (And.right (And.right (And.right (by with_reducible assumption))))) | exact And.right (And.right (And.right (And.right (And.right (And.right (by with_reducible assumption)))))) | exact And.right (And.right (And.right (And.right (And.right (And.right (And.right (by with_reducible assumption))))))) | exact And.right (And.right (And.right (And.right (And.right (And.right (And.right (And.right (by with_reducible assumption)))))))) | exact And.right (And.right (And.right (And.right (And.right (And.right (And.right (And.right (And.right (by with_reducible assumption))))))))) | exact And.right (And.right (And.right (And.right (And.right (And.right (And.right (And.right (And.right (And.right (by with_reducible assumption)))))))))) | exact And.right (And.right (And.right (And.right (And.right (And.right (And.right (And.right (And.right (And.right (And.right (by with_reducible assumption))))))))))) | exact And.right (And.right (And.right (And.right (And.right (And.right (And.right (And.right (And.right (And.right (And.right (And.right (by with_reducible assumption)))))))))))) | exact And.right (And.right (And.right (And.right (And.right (And.right (And.right (And.right (And.right (And.right (And.right (And.right (And.right (by with_reducible assumption))))))))))))) | exact And.right (And.right (And.right (And.right (And.right (And.right (And.right (And.right (And.right (And.right (And.right (And.right (And.right (And.right (by with_reducible assumption)))))))))))))) | exact And.right (And.right (And.right (And.right (And.right (And.right (And.right (And.right (And.right (And.right (And.right (And.right (And.right (And.right (And.right (by with_reducible assumption))))))))))))))) | exact And.right (And.right (And.right (And.right (And.right (And.right (And.right (And.right (And.right (And.right (And.right (And.right (And.right (And.right (And.right (And.right (by with_reducible assumption)))))))))))))))) | exact And.right (And.right (And.right (And.right (And.right (And.right (And.right (And.right (And.right (And.right (And.right (And.right (And.right (And.right (And.right (And.right (And.right (by with_reducible assumption))))))))))))))))) | exact And.right (And.right (And.right (And.right (And.right (And.right (And.right (And.right (And.right (And.right (And.right (And.right (And.right (And.right (And.right (And.right (And.right (And.right (by with_reducible assumption)))))))))))))))))) | exact And.right (And.right (And.right (And.right (And.right (And.right (And.right (And.right (And.right (And.right (And.right (And.right (And.right (And.right (And.right (And.right (And.right (And.right (And.right (by with_reducible assumption))))))))))))))))))) | exact And.right (And.right (And.right (And.right (And.right (And.right (And.right (And.right (And.right (And.right (And.right (And.right (And.right (And.right (And.right (And.right (And.right (And.right (And.right (And.right (by with_reducible assumption)))))))))))))))))))) | exact And.right (And.right (And.right (And.right (And.right (And.right (And.right (And.right (And.right (And.right (And.right (And.right (And.right (And.right (And.right (And.right (And.right (And.right (And.right (And.right (And.right (by with_reducible assumption))))))))))))))))))))) | exact And.right (And.right (And.right (And.right (And.right (And.right (And.right (And.right (And.right (And.right (And.right (And.right (And.right (And.right (And.right (And.right (And.right (And.right (And.right (And.right (And.right (And.right (by with_reducible assumption)))))))))))))))))))))) | exact And.right (And.right (And.right (And.right (And.right (And.right (And.right (And.right (And.right (And.right (And.right (And.right (And.right (And.right (And.right (And.right (And.right (And.right (And.right (And.right (And.right (And.right (And.right (by with_reducible assumption))))))))))))))))))))))) | exact And.right (And.right (And.right (And.right (And.right (And.right (And.right (And.right (And.right (And.right (And.right (And.right (And.right (And.right (And.right (And.right (And.right (And.right (And.right (And.right (And.right (And.right (And.right (And.right (by with_reducible assumption)))))))))))))))))))))))) | exact And.right (And.right (And.right (And.right (And.right (And.right (And.right (And.right (And.right (And.right (And.right (And.right (And.right (And.right (And.right (And.right (And.right (And.right (And.right (And.right (And.right (And.right (And.right (And.right (And.right (by with_reducible assumption))))))))))))))))))))))))) | fail "krn_off")
local macro_rules | `(tactic| k_all) => `(tactic| ((fail_if_success (refine List.forall_mem_cons.mpr ?_)); first | assumption | exact allLt_ne (by krn_off)))
local macro_rules | `(tactic| size_fits) => `(tactic| (simp only [List.size_toArray, PySem.sizeLine_eq]; omega))
local macro_rules | `(tactic| kbt_split) => `(tactic| first | exact Rm.head | (apply Rm.tail; kbt_split) | fail "kbt_split")
local macro_rules | `(tactic| tlg_ne) => `(tactic| first | exact off_nil | exact off_nil2 | (refine off_cons (by simp only [NeAll, and_true]; omega) ?_; tlg_ne) | exact off_sub (by assumption) (by first | (simp; done) | fail "tlg") | (refine off_lt (by krn_off) ?_; tlg_ne))
local macro_rules | `(tactic| fold_lay) => `(tactic| (refine' code_def ?k1 ?k2 ?k3 ?k4 ?k5 ?kA ?kF ?kK ?k6 ?k7 ?k8 ?k9 ?kB ?_ ?c2 ?c3 ?c4 ?c5; (case kA => exact rfl); (case kF => exact rfl); (case kK => first | exact rfl | assumption); (case k1 => k_asm); (case k2 => k_asm); (case k3 => k_asm); (case k4 => k_asm); (case k5 => k_asm); (case k6 => k_is); (case k7 => k_is); (case k8 => ktr_room); (case k9 => first | exact BindsTo.of_eq rfl | exact binds_K (by k_in) rfl (by k_is) rfl rfl rfl); (case c5 => decide); (case kB => exact locs rfl); (case c2 => exact rfl); (case c3 => exact rfl); (case c4 => exact rfl); k_whole; intro g' L' h' FG' F' N' B' X' T'; (try dsimp only); (try k_lift B'); (try k_fold)))
local macro_rules | `(tactic| walk_at "call ref") => `(tactic| (k_here; k_dflt (first
  | (refine' call_cls ?k1 ?k2 ?k3 ?k4 ?k5 ?k6 ?_; (case k1 => k_asm); (case k2 => k_asm); (case k3 => k_asm); (case k4 => k_is); (case k5 => k_is); (case k6 => k_is); k_whole; intro x' d' h' F' N' l1 l2; (try k_lt l1); (try k_lt2 l2); (try k_sweep); fold_lay)
  | (refine' call_meth ?k1 ?k2 ?_; (case k1 => k_asm); (case k2 => k_mem); k_whole; fold_lay)
  | (refine wpAny_call ?_; fold_lay))))
local macro_rules | `(tactic| ktr_units) => `(tactic| ((simp only [units_in1, units_deeper, Around.mark_units, units_make, units_ktr, cLine_is] at *); omega))
local macro_rules | `(tactic| ksw_less) => `(tactic| first | with_reducible exact sub3 | with_reducible assumption | (refine sub1 (by k_mem) ?_; ksw_less) | (refine sub2 ?_; ksw_less))
local macro_rules | `(tactic| k_mem) => `(tactic| ((fail_if_success (apply List.Mem.tail)); assumption))
section
variable {prog : Program} {w : World} {A : Around} {E : Value → Shared → Prop} {s : Shared} {env : Env} {h₀ : Heap} {target : Expr} {body : List Stmt} {Q : Flow → Shared → Prop}
theorem itemsRest_ind {I : Addr} {cls : String} {kp : Addr × Obj} (J : Tbl → (Str → Option Value) → Led → Prop)
    (turn : ∀ p r m nx h tk it T t u, J (p :: r) m nx → (∀ p ∈ nx, p.1 ≠ I) → it.cls = .type cls → IsTup h T #[.int p.1 t, .str p.2 u] → Fr h₀ env.locals h m → News h₀ env.locals h ((I, it) :: nx) →
      wpAny (model prog w) A (assign target env (.ref T)) (fun _ s₂ => wpAny (model prog w) A (execs body env) (UnrPostW h₀ env.locals { s with heap := h, toks := tk } [(I, it)] (fun m' n' => SubL [kp] n' ∧ J r m' n') Q) E s₂) E { s with heap := h, toks := tk })
    (done : ∀ m nx h tk, J [] m nx → Fr h₀ env.locals h m → News h₀ env.locals h nx → Q .next { s with heap := h, toks := tk }) :
    ∀ (c : Tbl) (m : Str → Option Value) (nx : Led), J c m nx → (∀ p ∈ nx, p.1 ≠ I) → ItemsRest prog w A E h₀ env target body Q s [(I, cls)] [kp] ((tblD c).map (fun p => Itm.pairF (kyVal p.1) p.2)) m nx := by
  intro c
  induction c with
  | nil => intro m nx hJ _ h tk F N; exact done m nx h tk hJ F N
  | cons p r ih =>
    intro m nx hJ ho u h tk e F
    obtain ⟨T, t, x, rfl, hfl, hT⟩ := e
    obtain ⟨y, rfl⟩ := PyProof.V.Flat.str_inv hfl
    refine AllObj.cons fun it hc => AllObj.nil fun N => ?_
    refine wpAny_mono (turn p r m nx h tk it T t y hJ ho hc hT F N) (fun _ s₂ h₂ => wpAny_mono h₂ (fun f s₃ q => postW_mono q fun m' n' o q => ⟨q.1, ?_⟩) fun _ _ x => x) fun _ _ x => x
    exact ih m' n' q.2 fun p hp => o p hp (I, it) (List.mem_singleton.mpr rfl)
end
theorem put_tbl {c : Tbl} {k : Int} {t : Str} (h : k ∉ c.map (·.1)) : putD (PyData.int k) (PyData.str t) (tblD c) = tblD (c ++ [(k, t)]) := by
  unfold putD
  rw [if_neg]
  · unfold tblD; simp
  · rw [List.any_eq_true]
    rintro ⟨p, hp, e⟩
    unfold tblD at hp
    obtain ⟨q, hq, rfl⟩ := List.mem_map.mp hp
    rw [PyProof.V.same_int] at e
    exact h (List.mem_map.mpr ⟨q, hq, of_decide_eq_true e⟩)
theorem put_tak {ys : List Str} {t : Str} (h : t ∉ ys) : putD (PyData.str t) (PyData.bool true) (takD ys) = takD (ys ++ [t]) := by
  unfold putD
  rw [if_neg]
  · unfold takD; simp
  · rw [List.any_eq_true]
    rintro ⟨p, hp, e⟩
    unfold takD at hp
    obtain ⟨q, hq, rfl⟩ := List.mem_map.mp hp
    rw [PyProof.V.same_str] at e
    exact h ((of_decide_eq_true e) ▸ hq)
local macro_rules | `(tactic| walk_at "exec For Tuple Call cons nil") => `(tactic| (k_here; (rename Fr _ _ _ _ => lF'); (with_unfolding_all refine' For_turns lF' ?_); k_whole))
local macro_rules | `(tactic| walk_at "getMethod ref") => `(tactic| (k_here; (with_reducible show wpAny _ _ (getMethod (Value.ref _) (Str.ofString "items") _) _ _ _); k_dflt (refine getMethod_tab (knd := PySem.intKind _ _) (enc := PyData.int) PySem.F.slot_dict_items PySem.F.type_dict_items (TabAt.ofNews (by k_asm) (by k_mem) (by k_asm) (by k_asm) (by k_asm)) ?_)))
local macro_rules | `(tactic| walk_at "call builtin:dict.items") => `(tactic| (k_here; k_dflt (refine call_items_tab (knd := PySem.intKind _ _) (enc := PyData.int) (TabAt.ofNews (by k_asm) (by k_mem) (by k_asm) (by k_asm) (by k_asm)) (by k_asm) (by k_asm) ?_); intro h9 o9 hv9 F9 N9; (replace N9 := kti_tail N9)))
local macro_rules | `(tactic| walk_at "pyIter ref") => `(tactic| (k_here; (with_reducible show wpAny _ _ (pyIter (Value.ref _)) (fun it s₂ => TurnsAt _ _ _ _ _ _ _ _ _ it s₂) _ _); (rename Fr _ _ _ _ => lF'); (rename News _ _ _ _ => lN'); (with_unfolding_all refine kti_items (knd := PySem.intKind _ _) (enc := PyData.int) (by rfl) lF' lN' (by assumption) (TabAt.ofNews lN' (by k_mem) (by k_asm) (by k_asm) (by k_asm)) (by k_mem) (fun _ _ h => Value.isInt_shape h) (by rfl) ?_); clear lF' lN'; intro i' l1; (try k_lt l1)))
local macro_rules | `(tactic| walk_at "setItem ref int") => `(tactic| (k_here; k_dflt (refine' setItem_K PyProof.V.same_int (intKind_is _ _ _ _) ?v ?F ?N ?U ?d ?f ?_ ?z; (case F => k_asm); (case N => k_asm); (case U => k_updF); (case d => k_asm); (case f => k_asm); (case z => (rw [sizeLine_eq]; simp only [tblD, List.length_map]; omega)); (case v => k_flat)); intro h9 o9 F9 N9 hd9 hf9; (try dsimp only at N9)))
local macro_rules | `(tactic| walk_at "setItem ref str") => `(tactic| (k_here; k_dflt (refine' setItem_K PyProof.V.same_str (strKind_is _ _ _ _) ?v ?F ?N ?U ?d ?f ?_ ?z; (case F => k_asm); (case N => k_asm); (case U => k_updF); (case d => k_asm); (case f => k_asm); (case z => (rw [sizeLine_eq]; simp only [takD, vals, List.length_map]; omega)); (case v => k_flat)); intro h9 o9 F9 N9 hd9 hf9; (try dsimp only at N9)))
set_option maxHeartbeats 8000000 in
theorem init_spec {w : World} {mean : ExcName → Option Value} {mg mb : Str → Option Value} {rest : Led} {xs xo nm : Nat} {nb : Bool} {c : Tbl} {on0 : Obj} {kn0 : List (Int × Value)}
    (hdn : on0.IsDictOf (PySem.intKind P0 w) kn0) (hfn : FlatPairs PyData.int kn0 (tblD c)) (hln : (nm == sysModules) = false) (hc1 : (c.map (·.1)).Nodup) (hc2 : (vals c).Nodup) (hcl : c.length ≤ 10) :
    Does 6 w mean mg mb 472 [.ref xs, .ref xo, .bool true, .bool false, .bool nb, .ref nm] ((nm, on0) :: rest)
      (fun r led => ∃ x dx an at' lo lw on ot kn kt ta h1 h2 h3 h4 h5 h6 h7 h8 h9 h10 h11 k1 k2 k3 k4 k5 k6 k7 k8 k9 k10 k11, r = .ref x ∧ Obj.IsDictOf (PySem.intKind P0 w) on kn ∧ FlatPairs PyData.int kn (tblD c) ∧ (an == sysModules) = false ∧ Obj.IsDictOf (PySem.strKind P0 w) ot kt ∧ FlatPairs PyData.str kt (takD (vals c)) ∧ (at' == sysModules) = false ∧
        AllLt dx ((nm, on0) :: rest) ∧ (dx < x ∧ x < an ∧ an < at') ∧
        led = (x, instObj 472 dx) :: (dx, dictOf [⟨h1, .str (Str.ofString "symbols") k1, .ref xs⟩, ⟨h2, .str (Str.ofString "operators") k2, .ref xo⟩, ⟨h3, .str (Str.ofString "quoted") k3, .bool true⟩, ⟨h4, .str (Str.ofString "ignore_ops") k4, .bool false⟩, ⟨h5, .str (Str.ofString "numbervars") k5, .bool nb⟩, ⟨h6, .str (Str.ofString "names") k6, .ref an⟩, ⟨h7, .str (Str.ofString "taken") k7, .ref at'⟩, ⟨h8, .str (Str.ofString "out") k8, .ref lo⟩, ⟨h9, .str (Str.ofString "last") k9, .str ((Str.ofString "")) ta⟩, ⟨h10, .str (Str.ofString "prefixed") k10, .bool false⟩, ⟨h11, .str (Str.ofString "work") k11, .ref lw⟩] 11) :: (an, on) :: (at', ot) :: (nm, on0) :: rest) := by
  unfold Does
  intro dp un gd cn cs fa ccd cl outer A₀ base h₀ L m s Q E B F X N Tp hk hd hu hret
  k_dflt (refine' call_cls ?k1 ?k2 ?k3 ?k4 ?k5 ?k6 ?_; (case k1 => k_asm); (case k2 => k_asm); (case k3 => k_asm); (case k4 => k_is); (case k5 => k_is); (case k6 => k_is); k_whole; intro x' d' h' F' N' l1 l2; (try k_lt l1); (try k_lt2 l2); (try k_sweep); fold_lay)
  k_steps
  rename_i an _ oa0 la0 _ _ hia fia q1 _ at' _ ob0 lb0 hsb fsb _ _ q2 _ _ _ _ _ _ I q3
  have hx1 : AllLt d' ((nm, on0) :: rest) := by first | exact ⟨by dsimp only; omega, by krn_off⟩ | fail
  refine itemsRest_ind (J := fun post m nx => ∃ pre on ot kn kt g1 g2 g3 g4 g5 g6 g7 j1 j2 j3 j4 j5 j6 j7, pre ++ post = c ∧ m (Str.ofString "self") = some (.ref x') ∧ Obj.IsDictOf (PySem.intKind P0 w) on kn ∧ FlatPairs PyData.int kn (tblD pre) ∧ Obj.IsDictOf (PySem.strKind P0 w) ot kt ∧ FlatPairs PyData.str kt (takD (vals pre)) ∧ nx = (at', ot) :: (an, on) :: (x', instObj 472 d') :: (d', dictOf [⟨g1, .str (Str.ofString "symbols") j1, .ref xs⟩, ⟨g2, .str (Str.ofString "operators") j2, .ref xo⟩, ⟨g3, .str (Str.ofString "quoted") j3, .bool true⟩, ⟨g4, .str (Str.ofString "ignore_ops") j4, .bool false⟩, ⟨g5, .str (Str.ofString "numbervars") j5, .bool nb⟩, ⟨g6, .str (Str.ofString "names") j6, .ref an⟩, ⟨g7, .str (Str.ofString "taken") j7, .ref at'⟩] 7) :: (nm, on0) :: rest) ?turn ?done c _ _ ⟨[], oa0, ob0, [], [], _, _, _, _, _, _, _, _, _, _, _, _, _, _, rfl, rfl, hia, fia, hsb, fsb, rfl⟩ ?o
  case o => first | k_all | fail
  case turn =>
    intro p r m nx h tk it T t u hJ hoffI hcls hTup F N
    obtain ⟨pre, on, ot, kn, kt, g1, g2, g3, g4, g5, g6, g7, j1, j2, j3, j4, j5, j6, j7, hpr, hm1, hdon, hfon, hdot, hfot, hnx⟩ := hJ
    rw [name_form hm1] at F
    subst hnx
    have hpl : pre.length ≤ 10 := by
      have := congrArg List.length hpr
      rw [List.length_append] at this; omega
    have hq1 : p.1 ∉ pre.map (·.1) := by
      rw [← hpr, List.map_append, List.nodup_append] at hc1
      exact fun hm => hc1.2.2 _ hm _ (List.mem_cons_self ..) rfl
    have hq2 : p.2 ∉ vals pre := by
      unfold vals at *
      rw [← hpr, List.map_append, List.nodup_append] at hc2
      exact fun hm => hc2.2.2 _ hm _ (List.mem_cons_self ..) rfl
    k_steps
    rename_i o1 _ _ hd1 hf1 _ o2 lF lN hd2 hf2
    rw [put_tbl hq1] at hf1
    rw [put_tak hq2] at hf2
    have e1 : vals pre ++ [p.2] = vals (pre ++ [p]) := by unfold vals; simp
    rw [e1] at hf2
    refine turn_out lF lN (by first | kbt_split | fail) ?off ⟨⟨?mem, trivial⟩, pre ++ [p], _, _, _, _, _, _, _, _, _, _, _, _, _, _, _, _, _, _, ?a1, rfl, hd1, hf1, hd2, hf2, rfl⟩
    case a1 => rw [← hpr]; simp
    case off => first | k_all | fail
    case mem => first | k_mem | fail
  case done =>
    intro m nx h tk hJ F N
    obtain ⟨pre, on, ot, kn, kt, g1, g2, g3, g4, g5, g6, g7, j1, j2, j3, j4, j5, j6, j7, hpr, hm1, hdon, hfon, hdot, hfot, hnx⟩ := hJ
    rw [name_form hm1] at F
    subst hnx
    rw [List.append_nil] at hpr
    subst hpr
    k_steps
    rename_i kF kN _ _
    refine hret _ _ _ _ ⟨x', d', an, at', _, _, on, ot, kn, kt, _, _, _, _, _, _, _, _, _, _, _, _, _, _, _, _, _, _, _, _, _, _, _, rfl, hdon, hfon, la0, hdot, hfot, lb0, hx1, ⟨l2, q1.1, q2.1⟩, rfl⟩ kF (cb_drop kN (by (repeat (refine sub1 (by first | k_mem | fail) ?_)); intro p hp; (repeat (first | exact hp | apply List.Mem.tail))))
end Mine
end
section
-- part E12a
open PySem PySem.W PySem.Calls PyProof.Rows PyProof.V PySem.Spec
namespace Mine
local macro_rules | `(tactic| krn_off) => `(tactic| first | with_reducible assumption | exact allLt_of (by with_reducible assumption) | exact And.right (by with_reducible assumption) | exact And.right (And.right (by with_reducible assumption)) | exact And.right (And.right (And.right (by with_reducible assumption))) | exact And.right (And.right (And.right (And.right (by with_reducible assumption)))) | exact And.right (And.right (And.right (And.right (And.right (by with_reducible assumption))))) | exact And.right (And.right (And.right (And.right (And.right (And.right (by with_reducible assumption)))))) | exact And.right (And.right (And.right (And.right (And.right (And.right (And.right (by with_reducible assumption))))))) | exact And.right (And.right (And.right (And.right (And.right (And.right (And.right (And.right (by with_reducible assumption)))))))) | exact And.right (And.right (And.right (And.right (And.right (And.right (And.right (And.right (And.right (by with_reducible assumption))))))))) | exact And.right (And.right (And.right (And.right (And.right (And.right (And.right (And.right (And.right (And.right (by with_reducible assumption)))))))))) | exact And.right (And.right (And.right (And.right (And.right (And.right (And.right (And.right (And.right (And.right (And.right (by with_reducible assumption))))))))))) | exact And.right (And.right (And.right (And.right (And.right (And.right (And.right (And.right (And.right (And.right (And.right (And.right (by with_reducible assumption)))))))))))) | exact And.right (And.right (And.right (And.right (And.right (And.right (And.right (And.right (And.right (And.right (And.right (And.right (And.right (by with_reducible assumption))))))))))))) | exact And.right (And.right (And.right (And.right (And.right (And.right (And.right (And.right (And.right (And.right (And.right (And.right (And.right (And.right (by with_reducible assumption)))))))))))))) | exact And.right (And.right (And.right (And.right (And.right (And.right (And.right (And.right (And.right (And.right (And.right (And.right (And.right (And.right (And.right (by with_reducible assumption))))))))))))))) | exact And.right (And.right (And.right (And.right (And.right (And.right (And.right (And.right (And.right (And.right (And.right (And.right (And.right (And.right (And.right (And.right (by with_reducible assumption)))))))))))))))) | exact And.right (And.right (And.right (And.right (And.right (And.right (And.right (And.right (And.right (And.right (And.right (And.right (And.right (And.right (And.right (And.right (And.right (by with_reducible assumption))))))))))))))))) | exact And.right (And.right (And.right (And.right (And.right (And.right (And.right (And.right (And.right (And.right (And.right (And.right (And.right (And.right (And.right (And.right (And.right (And.right (by with_reducible assumption)))))))))))))))))) | exact And.right (And.right (And.right (And.right (And.right (And.right (And.right (And.right (And.right (And.right (And.right (And.right (And.right (And.right (And.right (And.right (And.right (And.right (And.right (by with_reducible assumption))))))))))))))))))) | exact And.right (And.right (And.right (And.right (And.right (And.right (And.right (And.right (And.right (And.right (And.right (And.right (And.right (And.right (And.right (And.right (And.right (And.right (And.right (And.right (by with_reducible assumption)))))))))))))))))))) | exact And.right (And.right (And.right (And.right (And.right (And.right (And.right (And.right (And.right (And.right (And.right (And.right (And.right (And.right (And.right (And.right (And.right (And.right (And.right (And.right (And.right (by with_reducible assumption))))))))))))))))))))) | exact And.right (And.right (And.right (And.right (And.right (And.right (And.right (And.right (And.right (And.right (And.right (And.right (And.right (And.right (And.right (And.right (And.right (And.right (And.right (And.right (And.right (And.right (by with_reducible assumption)))))))))))))))))))))) | exact And.right (And.right (And.right (And.right (And.right (And.right (And.right (And.right (And.right (And.right (And.right (And.right (And.right (And.right (And.right (And.right (And.right (And.right (And.right (And.right (And.right (And.right (And.right (by with_reducible assumption))))))))))))))))))))))) | exact And.right (And.right (And.right (And.right (And.right (And.right (And.right (And.right (And.right (And.right (And.right (And.right (And.right (And.right (And.right (And.right (And.right (And.right (And.right (And.right (And.right (And.right (And.right (And.right (by with_reducible assumption)))))))))))))))))))))))) | exact And.right (And.right (And.right (And.right (And.right (And.right (And.right (And.right (And.right (And.right (And.right (And.right (And.right (And.right (And.right (And.right (And.right (And.right (And.right (And.right (And.right (And.right (And.right (And.right (And.right (by with_reducible assumption))))))))))))))))))))))))) | fail "krn_off")
local macro_rules | `(tactic| k_all) => `(tactic| ((fail_if_success (refine List.forall_mem_cons.mpr ?_)); first | assumption | exact allLt_ne (by krn_off)))
local macro_rules | `(tactic| size_fits) => `(tactic| (simp only [List.size_toArray, PySem.sizeLine_eq]; omega))
local macro_rules | `(tactic| kbt_split) => `(tactic| first | exact Rm.head | (apply Rm.tail; kbt_split) | fail "kbt_split")
local macro_rules | `(tactic| tlg_ne) => `(tactic| first | exact off_nil | exact off_nil2 | (refine off_cons (by simp only [NeAll, and_true]; omega) ?_; tlg_ne) | exact off_sub (by assumption) (by first | (simp; done) | fail "tlg") | (refine off_lt (by krn_off) ?_; tlg_ne))
local macro_rules | `(tactic| fold_lay) => `(tactic| (refine' code_def ?k1 ?k2 ?k3 ?k4 ?k5 ?kA ?kF ?kK ?k6 ?k7 ?k8 ?k9 ?kB ?_ ?c2 ?c3 ?c4 ?c5; (case kA => exact rfl); (case kF => exact rfl); (case kK => first | exact rfl | assumption); (case k1 => k_asm); (case k2 => k_asm); (case k3 => k_asm); (case k4 => k_asm); (case k5 => k_asm); (case k6 => k_is); (case k7 => k_is); (case k8 => ktr_room); (case k9 => first | exact BindsTo.of_eq rfl | exact binds_K (by k_in) rfl (by k_is) rfl rfl rfl); (case c5 => decide); (case kB => exact locs rfl); (case c2 => exact rfl); (case c3 => exact rfl); (case c4 => exact rfl); k_whole; intro g' L' h' FG' F' N' B' X' T'; (try dsimp only); (try k_lift B'); (try k_fold)))
local macro_rules | `(tactic| walk_at "call ref") => `(tactic| (k_here; k_dflt (first
  | (refine' call_cls ?k1 ?k2 ?k3 ?k4 ?k5 ?k6 ?_; (case k1 => k_asm); (case k2 => k_asm); (case k3 => k_asm); (case k4 => k_is); (case k5 => k_is); (case k6 => k_is); k_whole; intro x' d' h' F' N' l1 l2; (try k_lt l1); (try k_lt2 l2); (try k_sweep); fold_lay)
  | (refine' call_meth ?k1 ?k2 ?_; (case k1 => k_asm); (case k2 => k_mem); k_whole; fold_lay)
  | (refine wpAny_call ?_; fold_lay))))
local macro_rules | `(tactic| ktr_units) => `(tactic| ((simp only [units_in1, units_deeper, Around.mark_units, units_make, units_ktr, cLine_is] at *); omega))
local macro_rules | `(tactic| ksw_less) => `(tactic| first | with_reducible exact sub3 | with_reducible assumption | (refine sub1 (by k_mem) ?_; ksw_less) | (refine sub2 ?_; ksw_less))
local macro_rules | `(tactic| k_mem) => `(tactic| ((fail_if_success (apply List.Mem.tail)); assumption))
theorem rng6 {b : Int} (h0 : 1 ≤ b) (h1 : b ≤ 6) : Builtin.Range.small 0 b 1 = true ∧ Builtin.Range.rangeSize 0 b 1 = ((b.toNat : Nat) : Int) ∧ 1 ≤ b.toNat ∧ b.toNat ≤ 6 := by
  have : b = 1 ∨ b = 2 ∨ b = 3 ∨ b = 4 ∨ b = 5 ∨ b = 6 := by omega
  rcases this with rfl | rfl | rfl | rfl | rfl | rfl <;> decide
theorem fm6 (x : Int) : 1 ≤ 1 + Int.fmod x 6 ∧ 1 + Int.fmod x 6 ≤ 6 := by
  rw [Int.fmod_eq_emod_of_nonneg _ (by decide)]
  omega
/-- what the law says of a term -/
def told (nb : Bool) (c : Tbl) : Term → Str
  | .v k => nameT c k
  | .fn (.i f) => if nb = true ∧ 0 ≤ f then varT f else Str.ofString "'$VAR'(" ++ numT f ++ Str.ofString ")"
  | .fn (.a _) => Str.ofString "'$VAR'(k)"
  | _ => Str.ofString ""
def cat : List Str → Str
  | [] => Str.ofString ""
  | t :: r => t ++ cat r
theorem empty_str : Str.ofString "" = Str.empty := by decide +kernel
theorem cat_app : ∀ a b : List Str, cat (a ++ b) = cat a ++ cat b
  | [], b => by rw [List.nil_append]; show cat b = Str.ofString "" ++ cat b; rw [empty_str, Str.empty_append]
  | t :: r, b => by rw [List.cons_append]; show t ++ cat (r ++ b) = (t ++ cat r) ++ cat b; rw [cat_app r b, Str.append_assoc]
theorem join_cat : ∀ l : List Str, Txt.join (Str.ofString "") l = cat l := by
  intro l
  have e : Txt.join (Str.ofString "") l = Str.join (Str.ofString "") l := StrLaws.glued_eq_join _ l
  rw [e]
  induction l with
  | nil => decide +kernel
  | cons t r ih =>
    cases r with
    | nil => show t = t ++ Str.ofString ""; apply Str.ext'; simp [Str.cps_append]; decide +kernel
    | cons u r =>
      show t ++ Str.ofString "" ++ Str.join (Str.ofString "") (u :: r) = t ++ cat (u :: r)
      rw [ih (StrLaws.glued_eq_join _ _), Str.append_assoc]
      congr 1
      rw [empty_str, Str.empty_append]
theorem join_comma (t : Str) : ∀ l : List Str, Txt.join (Str.ofString ",") (t :: l) = t ++ cat (l.flatMap fun u => [Str.ofString ",", u]) := by
  intro l
  have e : Txt.join (Str.ofString ",") (t :: l) = Str.join (Str.ofString ",") (t :: l) := StrLaws.glued_eq_join _ _
  rw [e]
  induction l generalizing t with
  | nil => show t = t ++ Str.ofString ""; apply Str.ext'; simp [Str.cps_append]; decide +kernel
  | cons u r ih =>
    show t ++ Str.ofString "," ++ Str.join (Str.ofString ",") (u :: r) = t ++ (Str.ofString "," ++ (u ++ cat (r.flatMap fun u => [Str.ofString ",", u])))
    rw [ih u (StrLaws.glued_eq_join _ _), Str.append_assoc]
theorem app_empty (t : Str) : t ++ Str.ofString "" = t := by apply Str.ext'; simp [Str.cps_append]; decide +kernel
/-- the items that the law makes -/
inductive OkI (Tx : List Str) : Term → Prop
  | v {k : Int} : 0 ≤ k → k < 4 → OkI Tx (.v k)
  | fi {f : Int} : f ∈ [(0 : Int), 25, 26, 27, 700, -1] → OkI Tx (.fn (.i f))
  | fa {n : Int} : 0 ≤ n → n < 100000 → Tx[n.toNat]? = some (Str.ofString "k") → OkI Tx (.fn (.a n))
theorem OkI.okT {Tx : List Str} {T : Term} (h : OkI Tx T) : OkT Tx T := by
  cases h with
  | v h0 h3 => exact .v h0 h3
  | fi h => exact .fi h
  | fa h0 h1 h2 => exact .fa (.a h0 h1 h2)
theorem cat_told {nb : Bool} {c : Tbl} {Tx : List Str} {T : Term} (h : OkI Tx T) : cat (outT nb c T) = told nb c T := by
  cases h with
  | v h0 h3 => exact app_empty _
  | @fi f h =>
    show cat (if nb = true ∧ 0 ≤ f then [varT f] else [atomT (Str.ofString "$VAR"), Str.ofString "(", numT f, Str.ofString ")"]) = (if nb = true ∧ 0 ≤ f then varT f else Str.ofString "'$VAR'(" ++ numT f ++ Str.ofString ")")
    split
    · exact app_empty _
    · show atomT (Str.ofString "$VAR") ++ (Str.ofString "(" ++ (numT f ++ (Str.ofString ")" ++ Str.ofString ""))) = _
      rw [app_empty, ← Str.append_assoc, ← Str.append_assoc, show atomT (Str.ofString "$VAR") ++ Str.ofString "(" = Str.ofString "'$VAR'(" from by decide +kernel]
  | fa _ _ _ => show cat [atomT (Str.ofString "$VAR"), Str.ofString "(", atomT (Str.ofString "k"), Str.ofString ")"] = Str.ofString "'$VAR'(k)"; decide +kernel
theorem law_eq {nb : Bool} {c : Tbl} {Tx : List Str} {T : Term} {Ts : List Term} (h : ∀ U ∈ T :: Ts, OkI Tx U) :
    Txt.join (Str.ofString "") (rend nb c (.lst (T :: Ts))) = Str.ofString "[" ++ Txt.join (Str.ofString ",") ((T :: Ts).map (told nb c)) ++ Str.ofString "]" := by
  have more : ∀ r : List Term, (∀ U ∈ r, OkI Tx U) → cat (r.flatMap fun T => Str.ofString "," :: outT nb c T) = cat ((r.map (told nb c)).flatMap fun u => [Str.ofString ",", u]) := by
    intro r
    induction r with
    | nil => intro _; rfl
    | cons U r ih =>
      intro hr
      rw [List.flatMap_cons, cat_app, ih fun V hV => hr V (.tail _ hV), List.map_cons, List.flatMap_cons, cat_app]
      congr 1
      show Str.ofString "," ++ cat (outT nb c U) = Str.ofString "," ++ (told nb c U ++ Str.ofString "")
      rw [cat_told (hr U (.head _)), app_empty]
  rw [join_cat, List.map_cons, join_comma]
  show Str.ofString "[" ++ cat (itemsOut nb c (T :: Ts) ++ [Str.ofString "]"]) = _
  rw [cat_app]
  show Str.ofString "[" ++ (cat (outT nb c T ++ Ts.flatMap fun T => Str.ofString "," :: outT nb c T) ++ (Str.ofString "]" ++ Str.ofString "")) = _
  rw [cat_app, app_empty, cat_told (h T (.head _)), more Ts fun V hV => h V (.tail _ hV)]
  simp only [Str.append_assoc]
end Mine
end
section
-- part E13a
open PySem PySem.W PySem.Calls PyProof.Rows PyProof.V PySem.Spec
namespace Mine
local macro_rules | `(tactic| krn_off) => `(tactic| first | with_reducible assumption | exact allLt_of (by with_reducible assumption) | exact And.right (by with_reducible assumption) | exact And.right (And.right (by with_reducible assumption)) | exact And.right (And.right (And.right (by with_reducible assumption))) | exact And.right (And.right (And.right (And.right (by with_reducible assumption)))) | exact And.right (And.right (And.right (And.right (And.right (by with_reducible assumption))))) | exact And.right (And.right (And.right (And.right (And.right (And.right (by with_reducible assumption)))))) | exact And.right (And.right (And.right (And.right (And.right (And.right (And.right (by with_reducible assumption))))))) | exact And.right (And.right (And.right (And.right (And.right (And.right (And.right (And.right (by with_reducible assumption)))))))) | exact And.right (And.right (And.right (And.right (And.right (And.right (And.right (And.right (And.right (by with_reducible assumption))))))))) | exact And.right (And.right (And.right (And.right (And.right (And.right (And.right (And.right (And.right (And.right (by with_reducible assumption)))))))))) | exact And.right (And.right (And.right (And.right (And.right (And.right (And.right (And.right (And.right (And.right (And.right (by with_reducible assumption))))))))))) | exact And.right (And.right (And.right (And.right (And.right (And.right (And.right (And.right (And.right (And.right (And.right (And.right (by with_reducible assumption)))))))))))) | exact And.right (And.right (And.right (And.right (And.right (And.right (And.right (And.right (And.right (And.right (And.right (And.right (And.right (by with_reducible assumption))))))))))))) | exact And.right (And.right (And.right (And.right (And.right (And.right (And.right (And.right (And.right (And.right (And.right (And.right (And.right (And.right (by with_reducible assumption)))))))))))))) | exact And.right (And.right (And.right (And.right (And.right (And.right (And.right (And.right (And.right (And.right (And.right (And.right (And.right (And.right (And.right (by with_reducible assumption))))))))))))))) | exact And.right (And.right (And.right (And.right (And.right (And.right (And.right (And.right (And.right (And.right (And.right (And.right (And.right (And.right (And.right (And.right (by with_reducible assumption)))))))))))))))) | exact And.right (And.right (And.right (And.right (And.right (And.right (And.right (And.right (And.right (And.right (And.right (And.right (And.right (And.right (And.right (And.right (And.right (by with_reducible assumption))))))))))))))))) | exact And.right (And.right (And.right (And.right (And.right (And.right (And.right (And.right (And.right (And.right (And.right (And.right (And.right (And.right (And.right (And.right (And.right (And.right (by with_reducible assumption)))))))))))))))))) | exact And.right (And.right (And.right (And.right (And.right (And.right (And.right (And.right (And.right (And.right (And.right (And.right (And.right (And.right (And.right (And.right (And.right (And.right (And.right (by with_reducible assumption))))))))))))))))))) | exact And.right (And.right (And.right (And.right (And.right (And.right (And.right (And.right (And.right (And.right (And.right (And.right (And.right (And.right (And.right (And.right (And.right (And.right (And.right (And.right (by with_reducible assumption)))))))))))))))))))) | exact And.right (And.right (And.right (And.right (And.right (And.right (And.right (And.right (And.right (And.right (And.right (And.right (And.right (And.right (And.right (And.right (And.right (And.right (And.right (And.right (And.right (by with_reducible assumption))))))))))))))))))))) | exact And.right (And.right (And.right (And.right (And.right (And.right (And.right (And.right (And.right (And.right (And.right (And.right (And.right (And.right (And.right (And.right (And.right (And.right (And.right (And.right (And.right (And.right (by with_reducible assumption)))))))))))))))))))))) | exact And.right (And.right (And.right (And.right (And.right (And.right (And.right (And.right (And.right (And.right (And.right (And.right (And.right (And.right (And.right (And.right (And.right (And.right (And.right (And.right (And.right (And.right (And.right (by with_reducible assumption))))))))))))))))))))))) | exact And.right (And.right (And.right (And.right (And.right (And.right (And.right (And.right (And.right (And.right (And.right (And.right (And.right (And.right (And.right (And.right (And.right (And.right (And.right (And.right (And.right (And.right (And.right (And.right (by with_reducible assumption)))))))))))))))))))))))) | exact And.right (And.right (And.right (And.right (And.right (And.right (And.right (And.right (And.right (And.right (And.right (And.right (And.right (And.right (And.right (And.right (And.right (And.right (And.right (And.right (And.right (And.right (And.right (And.right (And.right (by with_reducible assumption))))))))))))))))))))))))) | fail "krn_off")
local macro_rules | `(tactic| k_all) => `(tactic| ((fail_if_success (refine List.forall_mem_cons.mpr ?_)); first | assumption | exact allLt_ne (by krn_off)))
local macro_rules | `(tactic| size_fits) => `(tactic| (simp only [List.size_toArray, PySem.sizeLine_eq]; omega))
local macro_rules | `(tactic| kbt_split) => `(tactic| first | exact Rm.head | (apply Rm.tail; kbt_split) | fail "kbt_split")
local macro_rules | `(tactic| tlg_ne) => `(tactic| first | exact off_nil | exact off_nil2 | (refine off_cons (by simp only [NeAll, and_true]; omega) ?_; tlg_ne) | exact off_sub (by assumption) (by first | (simp; done) | fail "tlg") | (refine off_lt (by krn_off) ?_; tlg_ne))
local macro_rules | `(tactic| fold_lay) => `(tactic| (refine' code_def ?k1 ?k2 ?k3 ?k4 ?k5 ?kA ?kF ?kK ?k6 ?k7 ?k8 ?k9 ?kB ?_ ?c2 ?c3 ?c4 ?c5; (case kA => exact rfl); (case kF => exact rfl); (case kK => first | exact rfl | assumption); (case k1 => k_asm); (case k2 => k_asm); (case k3 => k_asm); (case k4 => k_asm); (case k5 => k_asm); (case k6 => k_is); (case k7 => k_is); (case k8 => ktr_room); (case k9 => first | exact BindsTo.of_eq rfl | exact binds_K (by k_in) rfl (by k_is) rfl rfl rfl); (case c5 => decide); (case kB => exact locs rfl); (case c2 => exact rfl); (case c3 => exact rfl); (case c4 => exact rfl); k_whole; intro g' L' h' FG' F' N' B' X' T'; (try dsimp only); (try k_lift B'); (try k_fold)))
local macro_rules | `(tactic| walk_at "call ref") => `(tactic| (k_here; k_dflt (first
  | (refine' call_cls ?k1 ?k2 ?k3 ?k4 ?k5 ?k6 ?_; (case k1 => k_asm); (case k2 => k_asm); (case k3 => k_asm); (case k4 => k_is); (case k5 => k_is); (case k6 => k_is); k_whole; intro x' d' h' F' N' l1 l2; (try k_lt l1); (try k_lt2 l2); (try k_sweep); fold_lay)
  | (refine' call_meth ?k1 ?k2 ?_; (case k1 => k_asm); (case k2 => k_mem); k_whole; fold_lay)
  | (refine wpAny_call ?_; fold_lay))))
local macro_rules | `(tactic| ktr_units) => `(tactic| ((simp only [units_in1, units_deeper, Around.mark_units, units_make, units_ktr, cLine_is] at *); omega))
local macro_rules | `(tactic| ksw_less) => `(tactic| first | with_reducible exact sub3 | with_reducible assumption | (refine sub1 (by k_mem) ?_; ksw_less) | (refine sub2 ?_; ksw_less))
local macro_rules | `(tactic| k_mem) => `(tactic| ((fail_if_success (apply List.Mem.tail)); assumption))
theorem ex_bool {h₀ h : Heap} {L : Addr} {m : Str → Option Value} (_F : Fr h₀ L h m) {b : Bool} (hb : m (Str.ofString "numbervars") = some (.bool b)) : ∃ nb, m (Str.ofString "numbervars") = some (.bool nb) := ⟨b, hb⟩
structure Box (P : Prop) : Prop where out : P
def Stop2 (p : Prop) : Prop := p
theorem stopper2 {p : Prop} (h : Stop2 p) : p := h
section
variable {prog : Program} {w : World} {A : Around} {E : Value → Shared → Prop} {s : Shared} {h₀ : Heap} {L l : Addr} {news : Led} {m : Str → Option Value}
theorem item_cell {value slice : PySem.Expr} {vs : List Value} {C : List Int} {n : Nat} {k : Int} {u : Tok} {Q : Value → Shared → Prop} (N : News h₀ L s.heap news) (hm : (l, listOf vs.toArray n) ∈ news) (hi : IntsAre vs C) (h0 : 0 ≤ k) (h1 : k < 12) (hl : 12 ≤ C.length) (hp : ∀ x ∈ C, 0 ≤ x)
    (h : ∀ x t, 0 ≤ x → Q (.int x t) s) (hs : subscripted slice false (.ref l) (.int k u) = operate [.ref l, .int k u] (getItem (.ref l) (.int k u)) := by with_unfolding_all rfl) :
    wpAny (model prog w) A (subscriptTail value slice (.ref l) (.int k u)) Q E s := by
  have hk : k.toNat < C.length := by omega
  obtain ⟨t, ht⟩ := hi.get k.toNat C[k.toNat] (List.getElem?_eq_getElem hk)
  exact item_litK (News.isList N hm) h0 (by omega) ht (h _ t (hp _ (List.getElem_mem hk))) hs
theorem item_row {value slice : PySem.Expr} {vs : List Value} {n : Nat} {k : Int} {u : Tok} {Q : Value → Shared → Prop} (N : News h₀ L s.heap news) (hm : (l, listOf vs.toArray n) ∈ news) (h0 : 0 ≤ k) (h1 : k < (vs.length : Nat)) (h2 : k < 1000)
    (h : ∀ v, v ∈ vs → Q v s) (hs : subscripted slice false (.ref l) (.int k u) = operate [.ref l, .int k u] (getItem (.ref l) (.int k u)) := by with_unfolding_all rfl) :
    wpAny (model prog w) A (subscriptTail value slice (.ref l) (.int k u)) Q E s := by
  have hk : k.toNat < vs.length := by omega
  exact item_litK (News.isList N hm) h0 (by omega) (List.getElem?_eq_getElem hk) (h _ (List.getElem_mem hk)) hs
theorem range_K {n : Int} {t : Tok} {Q : Value → Shared → Prop} (F : Fr h₀ L s.heap m) (N : News h₀ L s.heap news)
    (h : ∀ (r : Addr) h' tk t1 t2, IsRange h' r 0 n 1 t1 t t2 → Fr h₀ L h' m → News h₀ L h' news → (∀ p ∈ news, p.1 < r) → Q (.ref r) { s with heap := h', toks := tk }) :
    wpAny (model prog w) A (call (.type "range") [.int n t]) Q E s :=
  call_range_1 (h _ _ _ _ _ (IsRange.new _ _ _ _ _ _ _) (F.push _) (kti_tail (News.push F N _)) fun p hp => Heap.lt_size (N p hp).1)
end
theorem toks_any {prog : Program} {w : World} {A : Around} {E : Value → Shared → Prop} {α : Type} {c : Sem α} {Q : α → Shared → Prop} {h : Heap} {g : Array GenState} {dr : Drawn} {os : OsState} {x : Nat} (hh : ∀ tk, wpAny (model prog w) A c Q E ⟨h, g, dr, tk, os⟩) : wpAny (model prog w) A c Q E ⟨h, g, dr, x, os⟩ := hh x
theorem cells_ok {ws : List Value} {ns : List Int} (h : IntsAre ws (List.map (fun k' => if k' < 0 then -k' else k') ns ++ (List.replicate (Int.toNat 12) [(0 : Int)]).flatten)) : ∃ C, IntsAre ws C ∧ 12 ≤ C.length ∧ ∀ x ∈ C, 0 ≤ x := by
  refine ⟨_, h, ?_, fun x hx => ?_⟩
  · rw [List.length_append]
    have : (List.replicate (Int.toNat 12) [(0 : Int)]).flatten.length = 12 := by decide
    omega
  · rcases List.mem_append.mp hx with hx | hx
    · obtain ⟨y, _, rfl⟩ := List.mem_map.mp hx
      split <;> omega
    · have : ∀ z ∈ (List.replicate (Int.toNat 12) [(0 : Int)]).flatten, 0 ≤ z := by decide
      exact this x hx
theorem fm5 (x : Int) : 0 ≤ Int.fmod x 5 ∧ Int.fmod x 5 < 5 ∧ Int.fmod x 5 < 1000 := by
  rw [Int.fmod_eq_emod_of_nonneg _ (by decide)]
  omega
theorem tbl_fit {c : Tbl} (h : c.length ≤ 10) : ([] : List (PyData × PyData)).length + (tblD c).length ≤ sizeLine := by
  rw [sizeLine_eq]
  simp only [tblD, List.length_map, List.length_nil]
  omega
theorem merge_tables {c : Tbl} (h : c ∈ Tables) : ktMergeD [] (tblD c) = tblD c := by
  unfold Tables at h
  simp only [List.mem_cons, List.not_mem_nil, or_false] at h
  rcases h with rfl | rfl | rfl | rfl | rfl <;> rfl
theorem tables_nodup {c : Tbl} (h : c ∈ Tables) : (c.map (·.1)).Nodup ∧ (vals c).Nodup ∧ c.length ≤ 10 := by
  unfold Tables at h
  simp only [List.mem_cons, List.not_mem_nil, or_false] at h
  rcases h with rfl | rfl | rfl | rfl | rfl <;> decide +kernel
def DictTbl (w : World) (a : Addr) (o : Obj) : Prop := ∃ kv c, c ∈ Tables ∧ Obj.IsDictOf (PySem.intKind P0 w) o kv ∧ FlatPairs PyData.int kv (tblD c) ∧ (a == sysModules) = false
def RowOk (w : World) (rl : Led) (v : Value) : Prop := ∃ a o, v = .ref a ∧ (a, o) ∈ rl ∧ DictTbl w a o
theorem rows_fold {w : World} {h₀ h : Heap} {L l a1 a2 a3 a4 a5 d : Addr} {o1 o2 o3 o4 o5 : Obj} {n : Nat} {rest : Led} (N : News h₀ L h ((l, listOf [Value.ref a1, .ref a2, .ref a3, .ref a4, .ref a5].toArray n) :: (a5, o5) :: (a4, o4) :: (a3, o3) :: (a2, o2) :: (a1, o1) :: rest))
    (k1 : DictTbl w a1 o1) (k2 : DictTbl w a2 o2) (k3 : DictTbl w a3 o3) (k4 : DictTbl w a4 o4) (k5 : DictTbl w a5 o5) (n1 : @Ne Nat a1 d) (n2 : @Ne Nat a2 d) (n3 : @Ne Nat a3 d) (n4 : @Ne Nat a4 d) (n5 : @Ne Nat a5 d) :
    ∃ RV rl, RV = [Value.ref a1, .ref a2, .ref a3, .ref a4, .ref a5] ∧ RV.length = 5 ∧ (∀ v ∈ RV, RowOk w rl v) ∧ OwnOff rl [d] ∧ News h₀ L h ((l, listOf RV.toArray n) :: (rest ++ rl)) := by
  refine ⟨_, [(a1, o1), (a2, o2), (a3, o3), (a4, o4), (a5, o5)], rfl, rfl, fun v hv => ?_, fun p hp b hb => ?_, fun p hp => N p ?_⟩
  · simp only [List.mem_cons, List.not_mem_nil, or_false] at hv
    rcases hv with rfl | rfl | rfl | rfl | rfl
    · exact ⟨a1, o1, rfl, .head _, k1⟩
    · exact ⟨a2, o2, rfl, .tail _ (.head _), k2⟩
    · exact ⟨a3, o3, rfl, .tail _ (.tail _ (.head _)), k3⟩
    · exact ⟨a4, o4, rfl, .tail _ (.tail _ (.tail _ (.head _))), k4⟩
    · exact ⟨a5, o5, rfl, .tail _ (.tail _ (.tail _ (.tail _ (.head _)))), k5⟩
  · rw [List.mem_singleton.mp hb]
    simp only [List.mem_cons, List.not_mem_nil, or_false] at hp
    rcases hp with rfl | rfl | rfl | rfl | rfl <;> first | exact n1 | exact n2 | exact n3 | exact n4 | exact n5
  · rcases List.mem_cons.mp hp with rfl | hp
    · exact .head _
    · rcases List.mem_append.mp hp with hp | hp
      · exact .tail _ (.tail _ (.tail _ (.tail _ (.tail _ (.tail _ hp)))))
      · simp only [List.mem_cons, List.not_mem_nil, or_false] at hp
        rcases hp with rfl | rfl | rfl | rfl | rfl <;> simp
local macro_rules | `(tactic| walk_at "storeName") => `(tactic| (k_here; (with_reducible show wpAny _ _ (storeName _ (Str.ofString "rows") _) _ _ _); refine stopper2 ?_))
local macro_rules | `(tactic| walk_at "call ref") => `(tactic| (k_here; (with_unfolding_all show wpAny _ _ (call (Value.ref 122) []) _ _ _); refine stopper2 ?_))
local macro_rules | `(tactic| walk_at "call ref") => `(tactic| (k_here; (with_unfolding_all show wpAny _ _ (call (Value.ref 287) [Value.ref _]) _ _ _); refine stopper2 ?_))
local macro_rules | `(tactic| walk_at "subscriptTail") => `(tactic| (k_here; (with_reducible show wpAny _ _ (subscriptTail _ _ (Value.ref _) (Value.int _ _)) _ _ _); k_dflt (refine item_row (by k_asm) (by k_mem) (by omega) (by omega) (by omega) ?_); intro v9 hv9))
local macro_rules | `(tactic| walk_at "subscriptTail") => `(tactic| (k_here; (with_reducible show wpAny _ _ (subscriptTail _ _ (Value.ref _) (Value.int _ _)) _ _ _); k_dflt (refine item_cell (by k_asm) (by k_mem) (by with_reducible assumption) (by omega) (by omega) (by with_reducible assumption) (by with_reducible assumption) ?_); intro x9 t9 hx9))
local macro_rules | `(tactic| walk_at "call builtin:dict.update") => `(tactic| (k_here; refine stopper2 ?_))
local macro_rules | `(tactic| walk_at "call type:range") => `(tactic| (k_here; k_dflt (refine range_K (by k_asm) (by k_asm) ?_); intro r9 h9 tk9 t9 u9 hr9 F9 N9 l9; (try k_lt l9)))
local macro_rules | `(tactic| walk_at "pyIter ref") => `(tactic| (k_here; (with_reducible show wpAny _ _ (pyIter (Value.ref _)) (fun it s₂ => LoopAtV _ _ _ _ _ _ _ _ _ it s₂) _ _); refine stopper2 ?_))
local macro_rules | `(tactic| walk_at "subscriptTail") => `(tactic| (k_here; (with_reducible show wpAny _ _ (subscriptTail (Expr.Name (Str.ofString "rows") _) _ (Value.ref _) (Value.int _ _)) _ _ _); refine stopper2 ?_))
set_option maxHeartbeats 8000000 in
noncomputable def S1 : PSigma fun P : Prop => Box P → PySem.Challenge.rw_rr0025_01.Holds := by
  refine ⟨?P, fun hP => hd ?a⟩
  case a =>
    k_go0
    (all_goals try k_fold)
    k_steps
    rename_i z58 z57 z56 z55 z54 z53 _ _ _ _ _ z47 z46 z45 z44 z43 z42 z41 z40 _ _ _ _ _ _ z33 z32 z31 z30 z29 z28 _ z26 z25 _ _ _ z21 _ _ z18 _ _ z15 _ z13 z12 z11 z10 z9 Dc ws _ hCI z4 _ lF lN
    clear z57 z56 z55 z54 z53 z47 z46 z45 z44 z43 z42 z41 z40 z33 z32 z31 z30 z29 z28 z26 z25 z21 z18 z15 z13 z12 z11 z10 z9 z4
    obtain ⟨C, hCI, hClen, hCpos⟩ := cells_ok hCI
    replace lN := cb_drop (news := [(Dc, listOf ws.toArray 0)]) lN (by ksw_less)
    ((first | unfold Stop | unfold Stop2); k_dflt (refine' does_use ?Bx1 ?Fx1 ?Xx1 ?Nx1 ?Tx1 ?hkx1 symbols_spec ?pkx1 ?hdx1 ?hux1 ?_; (case Bx1 => k_asm); (case Fx1 => k_asm); (case Xx1 => k_asm); (case Nx1 => k_asm); (case Tx1 => k_asm); (case hkx1 => first | exact rfl | assumption); (case pkx1 => exact Pk.nil); (case hdx1 => ktr_room); (case hux1 => ktr_units)); intro r9 n9 hz9 tz9 p9 F9 N9; (obtain ⟨xs, ds, bt, bn, bf, bg, k17, g1, g2, g3, g4, j1, j2, j3, j4, nds, nt, nf, vT, Fs, ob, kvb, tf1, tf2, hr9, hsT, hbn, hfb, hlb, hFl, hF17, hord, hled9⟩ := p9); (subst hr9); (subst hled9); (simp only [AllLt, and_true] at hord); (try dsimp only))
    k_steps
    ((first | unfold Stop | unfold Stop2); k_dflt (refine' does_use ?Bx2 ?Fx2 ?Xx2 ?Nx2 ?Tx2 ?hkx2 (ops_spec ?a1x2 ?a2x2 ?a3x2 ?a4x2 ?a5x2 ?a6x2 ?a7x2 ?a8x2) ?pkx2 ?hdx2 ?hux2 ?_; (case Bx2 => k_asm); (case Fx2 => k_asm); (case Xx2 => k_asm); (case Nx2 => k_asm); (case Tx2 => k_asm); (case hkx2 => first | exact rfl | assumption); (case pkx2 => (refine' Pk.cons ?q1x2 (Pk.cons ?q2x2 (Pk.cons ?q3x2 (Pk.cons ?q4x2 Pk.nil))); (case q1x2 => kbt_split); (case q2x2 => kbt_split); (case q3x2 => kbt_split); (case q4x2 => kbt_split))); (case a1x2 => assumption); (case a2x2 => k_asm); (case a3x2 => assumption); (case a4x2 => k_asm); (case a5x2 => exact tok_f29); (case a6x2 => decide); (case a7x2 => tlg_ne); (case a8x2 => omega); (case hdx2 => ktr_room); (case hux2 => ktr_units)); intro r9 n9 hz9 tz9 p9 F9 N9; (obtain ⟨y, dy, bp, bi, bq, f1, f2, f3, f4, m1, m2, m3, m4, gdy, op, oq, kp, Tx, vT2, nt2, ob2, kvb2, hr9, hsT2, hbn2, hfb2, hTok, hTl, hop, h26, hoq, hbp, hbq, hord2, hled9⟩ := p9); (subst hr9); (subst hled9); (simp only [AllLt, and_true] at hord2); (try dsimp only))
    clear hsT hbn hfb
    k_steps
    rename_i dn _ _ _ _ _ hin fin0 l7 _ d1 _ o1 e1 _ _ i1 f1' l8 _ o2 e2 i2 f2' ap2 l9 _ o3 e3 i3 f3' ap3 l10 _ o4 e4 i4 f4' ap4 l11 _ o5 e5 i5 f5' ap5 l12 lrow _ lF lN l13
    obtain ⟨RV, rl, hRV, hRVl, hRVo, hoff, lN2⟩ := rows_fold (w := _) (d := dn) lN ⟨_, [], by unfold Tables; simp, i1, f1', e1⟩ ⟨_, [(1, Str.ofString "_0")], by unfold Tables; simp, i2, f2', e2⟩ ⟨_, [(0, Str.ofString "X"), (2, Str.ofString "_1")], by unfold Tables; simp, i3, f3', e3⟩ ⟨_, [(1, Str.ofString "_0"), (2, Str.ofString "_0_")], by unfold Tables; simp, i4, f4', e4⟩ ⟨_, [(3, Str.ofString "_0__"), (1, Str.ofString "_0"), (2, Str.ofString "_0_")], by unfold Tables; simp, i5, f5', e5⟩ (by omega) (by omega) (by omega) (by omega) (by omega)
    have hall : (@LT.lt Nat _ Dc ds ∧ @LT.lt Nat _ ds xs ∧ @LT.lt Nat _ xs bt ∧ @LT.lt Nat _ bt bn ∧ @LT.lt Nat _ bn bf ∧ @LT.lt Nat _ bf bg ∧ @LT.lt Nat _ bg k17 ∧ @LT.lt Nat _ k17 dy ∧ @LT.lt Nat _ dy y ∧ @LT.lt Nat _ y bp ∧ @LT.lt Nat _ bp bi ∧ @LT.lt Nat _ bi bq ∧ @LT.lt Nat _ bq dn) ∧ @LT.lt Nat _ dn lrow := by omega
    obtain ⟨hall, hlrow⟩ := hall
    clear hRV lN ap2 ap3 ap4 ap5 i1 f1' i2 f2' i3 f3' i4 f4' i5 f5' e1 e2 e3 e4 e5 l7 l8 l9 l10 l11 l12 l13 hord hord2
    dsimp only [List.cons_append, List.nil_append] at lN2
    unfold Stop2
    try dsimp only
    refine toks_any fun tk0 => ?_
    repeat (rename_i zz; revert zz)
    revert z58 ys Dc ws C xs ds bt bn bf bg k17 g1 g2 g3 g4 j1 j2 j3 j4 nds nt nf vT Fs ob kvb tf1 tf2 y dy bp bi bq f1 f2 f3 f4 m1 m2 m3 m4 gdy op oq kp Tx vT2 nt2 ob2 kvb2 dn d1 o1 o2 o3 o4 o5 lrow RV rl tk hz9 tz9 fin0 tk0

    exact hP.out
end Mine
end
section
-- part E13b
open PySem PySem.W PySem.Calls PyProof.Rows PyProof.V PySem.Spec
namespace Mine
local macro_rules | `(tactic| krn_off) => `(tactic| first | with_reducible assumption | exact allLt_of (by with_reducible assumption) | exact And.right (by with_reducible assumption) | exact And.right (And.right (by with_reducible assumption)) | exact And.right (And.right (And.right (by with_reducible assumption))) | exact And.right (And.right (And.right (And.right (by with_reducible assumption)))) | exact And.right (And.right (And.right (And.right (And.right (by with_reducible assumption))))) | exact And.right (And.right (And.right (And.right (And.right (And.right (by with_reducible assumption)))))) | exact And.right (And.right (And.right (And.right (And.right (And.right (And.right (by with_reducible assumption))))))) | exact And.right (And.right (And.right (And.right (And.right (And.right (And.right (And.right (by with_reducible assumption)))))))) | exact And.right (And.right (And.right (And.right (And.right (And.right (And.right (And.right (And.right (by with_reducible assumption))))))))) | exact And.right (And.right (And.right (And.right (And.right (And.right (And.right (And.right (And.right (And.right (by with_reducible assumption)))))))))) | exact And.right (And.right (And.right (And.right (And.right (And.right (And.right (And.right (And.right (And.right (And.right (by with_reducible assumption))))))))))) | exact And.right (And.right (And.right (And.right (And.right (And.right (And.right (And.right (And.right (And.right (And.right (And.right (by with_reducible assumption)))))))))))) | exact And.right (And.right (And.right (And.right (And.right (And.right (And.right (And.right (And.right (And.right (And.right (And.right (And.right (by with_reducible assumption))))))))))))) | exact And.right (And.right (And.right (And.right (And.right (And.right (And.right (And.right (And.right (And.right (And.right (And.right (And.right (And.right (by with_reducible assumption)))))))))))))) | exact And.right (And.right (And.right (And.right (And.right (And.right (And.right (And.right (And.right (And.right (And.right (And.right (And.right (And.right (And.right (by with_reducible assumption))))))))))))))) | exact And.right (And.right (And.right (And.right (And.right (And.right (And.right (And.right (And.right (And.right (And.right (And.right (And.right (And.right (And.right (And.right (by with_reducible assumption)))))))))))))))) | exact And.right (And.right (And.right (And.right (And.right (And.right (And.right (And.right (And.right (And.right (And.right (And.right (And.right (And.right (And.right (And.right (And.right (by with_reducible assumption))))))))))))))))) | exact And.right (And.right (And.right (And.right (And.right (And.right (And.right (And.right (And.right (And.right (And.right (And.right (And.right (And.right (And.right (And.right (And.right (And.right (by with_reducible assumption)))))))))))))))))) | exact And.right (And.right (And.right (And.right (And.right (And.right (And.right (And.right (And.right (And.right (And.right (And.right (And.right (And.right (And.right (And.right (And.right (And.right (And.right (by with_reducible assumption))))))))))))))))))) | exact And.right (And.right (And.right (And.right (And.right (And.right (And.right (And.right (And.right (And.right (And.right (And.right (And.right (And.right (And.right (And.right (And.right (And.right (And.right (And.right (by with_reducible assumption)))))))))))))))))))) | exact And.right (And.right (And.right (And.right (And.right (And.right (And.right (And.right (And.right (And.right (And.right (And.right (And.right (And.right (And.right (And.right (And.right (And.right (And.right (And.right (And.right (by with_reducible assumption))))))))))))))))))))) | exact And.right (And.right (And.right (And.right (And.right (And.right (And.right (And.right (And.right (And.right (And.right (And.right (And.right (And.right (And.right (And.right (And.right (And.right (And.right (And.right (And.right (And.right (by with_reducible assumption)))))))))))))))))))))) | exact And.right (And.right (And.right (And.right (And.right (And.right (And.right (And.right (And.right (And.right (And.right (And.right (And.right (And.right (And.right (And.right (And.right (And.right (And.right (And.right (And.right (And.right (And.right (by with_reducible assumption))))))))))))))))))))))) | exact And.right (And.right (And.right (And.right (And.right (And.right (And.right (And.right (And.right (And.right (And.right (And.right (And.right (And.right (And.right (And.right (And.right (And.right (And.right (And.right (And.right (And.right (And.right (And.right (by with_reducible assumption)))))))))))))))))))))))) | exact And.right (And.right (And.right (And.right (And.right (And.right (And.right (And.right (And.right (And.right (And.right (And.right (And.right (And.right (And.right (And.right (And.right (And.right (And.right (And.right (And.right (And.right (And.right (And.right (And.right (by with_reducible assumption))))))))))))))))))))))))) | fail "krn_off")
local macro_rules | `(tactic| k_all) => `(tactic| ((fail_if_success (refine List.forall_mem_cons.mpr ?_)); first | assumption | exact allLt_ne (by krn_off)))
local macro_rules | `(tactic| size_fits) => `(tactic| (simp only [List.size_toArray, PySem.sizeLine_eq]; omega))
local macro_rules | `(tactic| kbt_split) => `(tactic| first | exact Rm.head | (apply Rm.tail; kbt_split) | fail "kbt_split")
local macro_rules | `(tactic| tlg_ne) => `(tactic| first | exact off_nil | exact off_nil2 | (refine off_cons (by simp only [NeAll, and_true]; omega) ?_; tlg_ne) | exact off_sub (by assumption) (by first | (simp; done) | fail "tlg") | (refine off_lt (by krn_off) ?_; tlg_ne))
local macro_rules | `(tactic| fold_lay) => `(tactic| (refine' code_def ?k1 ?k2 ?k3 ?k4 ?k5 ?kA ?kF ?kK ?k6 ?k7 ?k8 ?k9 ?kB ?_ ?c2 ?c3 ?c4 ?c5; (case kA => exact rfl); (case kF => exact rfl); (case kK => first | exact rfl | assumption); (case k1 => k_asm); (case k2 => k_asm); (case k3 => k_asm); (case k4 => k_asm); (case k5 => k_asm); (case k6 => k_is); (case k7 => k_is); (case k8 => ktr_room); (case k9 => first | exact BindsTo.of_eq rfl | exact binds_K (by k_in) rfl (by k_is) rfl rfl rfl); (case c5 => decide); (case kB => exact locs rfl); (case c2 => exact rfl); (case c3 => exact rfl); (case c4 => exact rfl); k_whole; intro g' L' h' FG' F' N' B' X' T'; (try dsimp only); (try k_lift B'); (try k_fold)))
local macro_rules | `(tactic| walk_at "call ref") => `(tactic| (k_here; k_dflt (first
  | (refine' call_cls ?k1 ?k2 ?k3 ?k4 ?k5 ?k6 ?_; (case k1 => k_asm); (case k2 => k_asm); (case k3 => k_asm); (case k4 => k_is); (case k5 => k_is); (case k6 => k_is); k_whole; intro x' d' h' F' N' l1 l2; (try k_lt l1); (try k_lt2 l2); (try k_sweep); fold_lay)
  | (refine' call_meth ?k1 ?k2 ?_; (case k1 => k_asm); (case k2 => k_mem); k_whole; fold_lay)
  | (refine wpAny_call ?_; fold_lay))))
local macro_rules | `(tactic| ktr_units) => `(tactic| ((simp only [units_in1, units_deeper, Around.mark_units, units_make, units_ktr, cLine_is] at *); omega))
local macro_rules | `(tactic| ksw_less) => `(tactic| first | with_reducible exact sub3 | with_reducible assumption | (refine sub1 (by k_mem) ?_; ksw_less) | (refine sub2 ?_; ksw_less))
local macro_rules | `(tactic| k_mem) => `(tactic| ((fail_if_success (apply List.Mem.tail)); assumption))
section
variable {prog : Program} {w : World} {A : Around} {E : Value → Shared → Prop} {s : Shared} {env : Env} {h₀ : Heap} {x : Str} {body : List Stmt} {Q : Flow → Shared → Prop}
theorem range_ind {I : Addr} {a : Int} {n : Nat} (J : Nat → (Str → Option Value) → Led → Prop)
    (turn : ∀ i m nx t h tk it, i < n → J i m nx → (∀ p ∈ nx, p.1 ≠ I) → Fr h₀ env.locals h (fun y => if y = x then some (.int (a + (i : Int)) t) else m y) → News h₀ env.locals h ((I, it) :: nx) →
      wpAny (model prog w) A (execs body env) (UnrPost h₀ env.locals { s with heap := h, toks := tk } I it (fun m' n' => J (i + 1) m' n') Q) E { s with heap := h, toks := tk })
    (done : ∀ m nx h tk, J n m nx → Fr h₀ env.locals h m → News h₀ env.locals h nx → Q .next { s with heap := h, toks := tk }) :
    ∀ (k i : Nat) (m : Str → Option Value) (nx : Led), k + i = n → J i m nx → (∀ p ∈ nx, p.1 ≠ I) → RangeRest prog w A E h₀ env x body Q s I a n k i m nx := by
  intro k
  induction k with
  | zero => intro i m nx e hJ _ h tk F N; exact done m nx h tk (by rw [show i = n by omega] at hJ; exact hJ) F N
  | succ k ih =>
    intro i m nx e hJ ho t h tk F N
    exact wpAny_mono (turn i m nx t h tk _ (by omega) hJ ho F N) (fun f s₃ p => unrPost_mono p fun m' n' o q => ih (i + 1) m' n' (by omega) q o) fun _ _ x => x
end
local macro_rules | `(tactic| walk_at "storeName") => `(tactic| (k_here; (with_reducible show wpAny _ _ (storeName _ (Str.ofString "rows") _) _ _ _); refine stopper2 ?_))
local macro_rules | `(tactic| walk_at "call ref") => `(tactic| (k_here; (with_unfolding_all show wpAny _ _ (call (Value.ref 122) []) _ _ _); refine stopper2 ?_))
local macro_rules | `(tactic| walk_at "call ref") => `(tactic| (k_here; (with_unfolding_all show wpAny _ _ (call (Value.ref 287) [Value.ref _]) _ _ _); refine stopper2 ?_))
local macro_rules | `(tactic| walk_at "subscriptTail") => `(tactic| (k_here; (with_reducible show wpAny _ _ (subscriptTail _ _ (Value.ref _) (Value.int _ _)) _ _ _); k_dflt (refine item_row (by k_asm) (by k_mem) (by omega) (by omega) (by omega) ?_); intro v9 hv9))
local macro_rules | `(tactic| walk_at "subscriptTail") => `(tactic| (k_here; (with_reducible show wpAny _ _ (subscriptTail _ _ (Value.ref _) (Value.int _ _)) _ _ _); k_dflt (refine item_cell (by k_asm) (by k_mem) (by with_reducible assumption) (by omega) (by omega) (by with_reducible assumption) (by with_reducible assumption) ?_); intro x9 t9 hx9))
local macro_rules | `(tactic| walk_at "call builtin:dict.update") => `(tactic| (k_here; refine stopper2 ?_))
local macro_rules | `(tactic| walk_at "call type:range") => `(tactic| (k_here; k_dflt (refine range_K (by k_asm) (by k_asm) ?_); intro r9 h9 tk9 t9 u9 hr9 F9 N9 l9; (try k_lt l9)))
local macro_rules | `(tactic| walk_at "pyIter ref") => `(tactic| (k_here; (with_reducible show wpAny _ _ (pyIter (Value.ref _)) (fun it s₂ => LoopAtV _ _ _ _ _ _ _ _ _ it s₂) _ _); refine stopper2 ?_))
local macro_rules | `(tactic| walk_at "subscriptTail") => `(tactic| (k_here; (with_reducible show wpAny _ _ (subscriptTail (Expr.Name (Str.ofString "rows") _) _ (Value.ref _) (Value.int _ _)) _ _ _); refine stopper2 ?_))
set_option maxHeartbeats 8000000 in
noncomputable def S2 : PSigma fun P : Prop × Prop => Box P.1 → Box P.2 → S1.1 := by
  refine ⟨(?P1, ?P2), fun hT hD => ?a⟩
  case a =>
    intro z58
    set_option tactic.hygienic false in intros
    clear zz_59 zz_60 zz_49
    k_dflt (refine' storeX_L ?F7 ?N7 ?_ ?a7 ?b7; (case F7 => k_asm); (case N7 => k_asm); (case a7 => rfl); (case b7 => rfl); k_whole; intro h' F' N'; (try k_sweep))
    k_steps
    unfold Stop2
    refine' item_row ?N8 ?m8 ?h08 ?h18 ?h28 ?_
    case N8 => k_asm
    case m8 => k_mem
    case h08 => exact (fm5 _).1
    case h18 => rw [hRVl]; exact (fm5 _).2.1
    case h28 => exact (fm5 _).2.2
    intro v9 hv9
    obtain ⟨ar, orr, rfl, hrm, kvr, c, hcT, hdr, hfr, hlr⟩ := hRVo v9 hv9
    try refine toks_any fun tk0 => ?_
    k_steps
    unfold Stop2
    try refine toks_any fun tk0 => ?_
    obtain ⟨hcn1, hcn2, hcl⟩ := tables_nodup hcT
    have hne : @Ne Nat dn ar := fun e => hoff _ hrm dn (.head _) e.symm
    refine' kt_update_K (knd := PySem.intKind _ _) PyProof.V.same_int ?F6 ?N6 ?U6 ?d6 ?f6 ?t6 ?n6 ?_ ?z6
    case F6 => k_asm
    case N6 => k_asm
    case U6 => k_updF
    case d6 => exact hin
    case f6 => exact fin0
    case t6 => exact TabAt.ofNews (by k_asm) (by (repeat (first | exact hrm | apply List.Mem.tail))) hlr hdr hfr
    case n6 => exact hne
    case z6 => exact tbl_fit hcl
    intro h6 on kn F6 N6 hdn hfn
    rw [merge_tables hcT] at hfn
    replace N6 := cb_drop (news := (dn, on) :: (y, instObj 287 dy) :: (dy, opsDict f1 f2 f3 f4 m1 m2 m3 m4 xs bp bi bq gdy) :: (bp, op) :: (bq, oq) :: (xs, instObj 122 ds) :: (ds, symDict g1 g2 g3 g4 j1 j2 j3 j4 bt bn bf bg nds) :: (bt, listOf vT2.toArray nt2) :: (bn, ob2) :: (bf, listOf Fs.toArray nf) :: (k17, tupO [.int 26 tf1, .int 1 tf2]) :: (Dc, listOf ws.toArray 0) :: []) N6 (by (repeat (refine sub1 (by first | k_mem | fail) ?_)); exact List.forall_mem_nil _)
    clear hv9 hne hcn1 hcn2 hcl hoff hrm hdr hfr hlr hRVo hRVl hin fin0 hlrow
    k_steps
    unfold Stop2
    rename_i D _ l1 _ tk1 du _ l2 _ zF zN t r _ tk9 t9 u9 hr F N l9
    obtain ⟨nb, hnb⟩ := ex_bool F rfl
    obtain ⟨hb1, hb2⟩ := fm6 (C.getD (Int.toNat 2) 0)
    obtain ⟨hr1, hr2, hr3, hr4⟩ := rng6 hb1 hb2
    have hdD : @LT.lt Nat _ dn D ∧ @LT.lt Nat _ dn du := by omega
    replace N := cb_drop (news := (du, listOf ([] : List Value).toArray 0) :: (dn, on) :: (y, instObj 287 dy) :: (dy, opsDict f1 f2 f3 f4 m1 m2 m3 m4 xs bp bi bq gdy) :: (bp, op) :: (bq, oq) :: (xs, instObj 122 ds) :: (ds, symDict g1 g2 g3 g4 j1 j2 j3 j4 bt bn bf bg nds) :: (bt, listOf vT2.toArray nt2) :: (bn, ob2) :: (bf, listOf Fs.toArray nf) :: (k17, tupO [.int 26 tf1, .int 1 tf2]) :: (Dc, listOf ws.toArray 0) :: [(D, _)]) N (by (repeat (refine sub1 (by first | k_mem | fail) ?_)); exact List.forall_mem_nil _)
    clear l1 l2 l9 zF zN
    refine iter_rangeUnr (by rfl) hr hr1 hr2 F N fun I l10 => ?_
    k_lt l10
    refine range_ind (J := fun i m nx => ∃ Ts dv tolds cnt a du rr Tx vT nt ob kvb, m (Str.ofString "book") = some (.ref xs) ∧ m (Str.ofString "operators") = some (.ref y) ∧ m (Str.ofString "numbervars") = some (.bool nb) ∧ m (Str.ofString "names") = some (.ref dn) ∧ m (Str.ofString "cells") = some (.ref Dc) ∧ m (Str.ofString "rest") = some (.ref a) ∧ m (Str.ofString "due") = some (.ref du) ∧
      ChainIs rr (.ref a) Ts ∧ StrsAre dv tolds ∧ tolds = Ts.map (told nb c) ∧ (∀ U ∈ Ts, OkI Tx U) ∧ Ts.length = i ∧ StrsAre vT Tx ∧ Obj.IsDictOf (PySem.strKind P0 zz) ob kvb ∧ FlatPairs PyData.str kvb (kdpD (tabOf Tx)) ∧ TOk Tx ∧ Tx.length ≤ 170 + i ∧ OwnOff rr [xs, ds, bt, bn] ∧ @LT.lt Nat _ dn du ∧
      nx = (du, listOf dv.toArray cnt) :: (dn, on) :: (y, instObj 287 dy) :: (dy, opsDict f1 f2 f3 f4 m1 m2 m3 m4 xs bp bi bq gdy) :: (bp, op) :: (bq, oq) :: (xs, instObj 122 ds) :: (ds, symDict g1 g2 g3 g4 j1 j2 j3 j4 bt bn bf bg nds) :: (bt, listOf vT.toArray nt) :: (bn, ob) :: (bf, listOf Fs.toArray nf) :: (k17, tupO [.int 26 tf1, .int 1 tf2]) :: (Dc, listOf ws.toArray 0) :: rr) ?turn ?done _ 0 _ _ (by omega) ?st ?off
    case st =>
      refine ⟨[], [], [], 0, D, du, _, Tx, vT2, nt2, ob2, kvb2, rfl, rfl, hnb, rfl, rfl, rfl, rfl, .nil (.head _), .nil, rfl, ?_, rfl, hsT2, hbn2, hfb2, hTok, hTl, ?_, hdD.2, rfl⟩
      · intro U hU; cases hU
      · exact off_cons (by simp only [NeAll, and_true]; omega) off_nil
    case off => k_all
    case turn =>
      clear hsT2 hbn2 hfb2 hTok hTl hr F N hnb hb1 hb2 hr1 hr2 hr3 l10 hdD zz_64 zz_65 zz_68 zz_69
      repeat (rename_i zq; revert zq)
      revert z58 ys Dc ws C xs ds bt bn bf bg k17 g1 g2 g3 g4 j1 j2 j3 j4 nds nt nf vT Fs ob kvb tf1 tf2 hz9 tz9 y dy bp bi bq f1 f2 f3 f4 m1 m2 m3 m4 gdy op oq kp Tx vT2 nt2 ob2 kvb2 dn d1 o1 o2 o3 o4 o5 lrow RV rl zz zz_1 zz_2 zz_3 zz_4 zz_7 zz_8 zz_9 zz_10 zz_11 zz_22 zz_23 zz_25 zz_26 zz_28 zz_29 zz_30 zz_31 zz_32 zz_35 zz_36 zz_37 zz_38 zz_39 zz_40 zz_41 zz_42 zz_43 zz_44 zz_45 zz_46 zz_47 zz_48 zz_50 zz_51 zz_52 zz_53 zz_54 zz_55 zz_56 zz_57 zz_58 zz_61 zz_62 zz_66 zz_67 zz_70 zz_71 zz_72 zz_73 zz_74 h' ar orr kvr c tk0 h6 on kn D tk1 du tk t r tk9 t9 u9 nb I
      exact hT.out
    case done =>
      clear hsT2 hbn2 hfb2 hTok hTl hr F N hnb hb1 hb2 hr1 hr2 l10 hdD zz_64 zz_65 zz_68 zz_69
      repeat (rename_i zq; revert zq)
      revert z58 ys Dc ws C xs ds bt bn bf bg k17 g1 g2 g3 g4 j1 j2 j3 j4 nds nt nf vT Fs ob kvb tf1 tf2 hz9 tz9 y dy bp bi bq f1 f2 f3 f4 m1 m2 m3 m4 gdy op oq kp Tx vT2 nt2 ob2 kvb2 dn d1 o1 o2 o3 o4 o5 lrow RV rl zz zz_1 zz_2 zz_3 zz_4 zz_7 zz_8 zz_9 zz_10 zz_11 zz_22 zz_23 zz_25 zz_26 zz_28 zz_29 zz_30 zz_31 zz_32 zz_35 zz_36 zz_37 zz_38 zz_39 zz_40 zz_41 zz_42 zz_43 zz_44 zz_45 zz_46 zz_47 zz_48 zz_50 zz_51 zz_52 zz_53 zz_54 zz_55 zz_56 zz_57 zz_58 zz_61 zz_62 zz_66 zz_67 zz_70 zz_71 zz_72 zz_73 zz_74 h' ar orr kvr c tk0 h6 on kn D tk1 du tk t r tk9 t9 u9 nb I
      exact hD.out
end Mine
end
section
-- part E13c
open PySem PySem.W PySem.Calls PyProof.Rows PyProof.V PySem.Spec
namespace Mine
local macro_rules | `(tactic| krn_off) => `(tactic| first | with_reducible assumption | exact allLt_of (by with_reducible assumption) | exact And.right (by with_reducible assumption) | exact And.right (And.right (by with_reducible assumption)) | exact And.right (And.right (And.right (by with_reducible assumption))) | exact And.right (And.right (And.right (And.right (by with_reducible assumption)))) | exact And.right (And.right (And.right (And.right (And.right (by with_reducible assumption))))) | exact And.right (And.right (And.right (And.right (And.right (And.right (by with_reducible assumption)))))) | exact And.right (And.right (And.right (And.right (And.right (And.right (And.right (by with_reducible assumption))))))) | exact And.right (And.right (And.right (And.right (And.right (And.right (And.right (And.right (by with_reducible assumption)))))))) | exact And.right (And.right (And.right (And.right (And.right (And.right (And.right (And.right (And.right (by with_reducible assumption))))))))) | exact And.right (And.right (And.right (And.right (And.right (And.right (And.right (And.right (And.right (And.right (by with_reducible assumption)))))))))) | exact And.right (And.right (And.right (And.right (And.right (And.right (And.right (And.right (And.right (And.right (And.right (by with_reducible assumption))))))))))) | exact And.right (And.right (And.right (And.right (And.right (And.right (And.right (And.right (And.right (And.right (And.right (And.right (by with_reducible assumption)))))))))))) | exact And.right (And.right (And.right (And.right (And.right (And.right (And.right (And.right (And.right (And.right (And.right (And.right (And.right (by with_reducible assumption))))))))))))) | exact And.right (And.right (And.right (And.right (And.right (And.right (And.right (And.right (And.right (And.right (And.right (And.right (And.right (And.right (by with_reducible assumption)))))))))))))) | exact And.right (And.right (And.right (And.right (And.right (And.right (And.right (And.right (And.right (And.right (And.right (And.right (And.right (And.right (And.right (by with_reducible assumption))))))))))))))) | exact And.right (And.right (And.right (And.right (And.right (And.right (And.right (And.right (And.right (And.right (And.right (And.right (And.right (And.right (And.right (And.right (by with_reducible assumption)))))))))))))))) | exact And.right (And.right (And.right (And.right (And.right (And.right (And.right (And.right (And.right (And.right (And.right (And.right (And.right (And.right (And.right (And.right (And.right (by with_reducible assumption))))))))))))))))) | exact And.right (And.right (And.right (And.right (And.right (And.right (And.right (And.right (And.right (And.right (And.right (And.right (And.right (And.right (And.right (And.right (And.right (And.right (by with_reducible assumption)))))))))))))))))) | exact And.right (And.right (And.right (And.right (And.right (And.right (And.right (And.right (And.right (And.right (And.right (And.right (And.right (And.right (And.right (And.right (And.right (And.right (And.right (by with_reducible assumption))))))))))))))))))) | exact And.right (And.right (And.right (And.right (And.right (And.right (And.right (And.right (And.right (And.right (And.right (And.right (And.right (And.right (And.right (And.right (And.right (And.right (And.right (And.right (by with_reducible assumption)))))))))))))))))))) | exact And.right (And.right (And.right (And.right (And.right (And.right (And.right (And.right (And.right (And.right (And.right (And.right (And.right (And.right (And.right (And.right (And.right (And.right (And.right (And.right (And.right (by with_reducible assumption))))))))))))))))))))) | exact And.right (And.right (And.right (And.right (And.right (And.right (And.right (And.right (And.right (And.right (And.right (And.right (And.right (And.right (And.right (And.right (And.right (And.right (And.right (And.right (And.right (And.right (by with_reducible assumption)))))))))))))))))))))) | exact And.right (And.right (And.right (And.right (And.right (And.right (And.right (And.right (And.right (And.right (And.right (And.right (And.right (And.right (And.right (And.right (And.right (And.right (And.right (And.right (And.right (And.right (And.right (by with_reducible assumption))))))))))))))))))))))) | exact And.right (And.right (And.right (And.right (And.right (And.right (And.right (And.right (And.right (And.right (And.right (And.right (And.right (And.right (And.right (And.right (And.right (And.right (And.right (And.right (And.right (And.right (And.right (And.right (by with_reducible assumption)))))))))))))))))))))))) | exact And.right (And.right (And.right (And.right (And.right (And.right (And.right (And.right (And.right (And.right (And.right (And.right (And.right (And.right (And.right (And.right (And.right (And.right (And.right (And.right (And.right (And.right (And.right (And.right (And.right (by with_reducible assumption))))))))))))))))))))))))) | fail "krn_off")
local macro_rules | `(tactic| k_all) => `(tactic| ((fail_if_success (refine List.forall_mem_cons.mpr ?_)); first | assumption | exact allLt_ne (by krn_off)))
local macro_rules | `(tactic| size_fits) => `(tactic| (simp only [List.size_toArray, PySem.sizeLine_eq]; omega))
local macro_rules | `(tactic| kbt_split) => `(tactic| first | exact Rm.head | (apply Rm.tail; kbt_split) | fail "kbt_split")
local macro_rules | `(tactic| tlg_ne) => `(tactic| first | exact off_nil | exact off_nil2 | (refine off_cons (by simp only [NeAll, and_true]; omega) ?_; tlg_ne) | exact off_sub (by assumption) (by first | (simp; done) | fail "tlg") | (refine off_lt (by krn_off) ?_; tlg_ne))
local macro_rules | `(tactic| fold_lay) => `(tactic| (refine' code_def ?k1 ?k2 ?k3 ?k4 ?k5 ?kA ?kF ?kK ?k6 ?k7 ?k8 ?k9 ?kB ?_ ?c2 ?c3 ?c4 ?c5; (case kA => exact rfl); (case kF => exact rfl); (case kK => first | exact rfl | assumption); (case k1 => k_asm); (case k2 => k_asm); (case k3 => k_asm); (case k4 => k_asm); (case k5 => k_asm); (case k6 => k_is); (case k7 => k_is); (case k8 => ktr_room); (case k9 => first | exact BindsTo.of_eq rfl | exact binds_K (by k_in) rfl (by k_is) rfl rfl rfl); (case c5 => decide); (case kB => exact locs rfl); (case c2 => exact rfl); (case c3 => exact rfl); (case c4 => exact rfl); k_whole; intro g' L' h' FG' F' N' B' X' T'; (try dsimp only); (try k_lift B'); (try k_fold)))
local macro_rules | `(tactic| walk_at "call ref") => `(tactic| (k_here; k_dflt (first
  | (refine' call_cls ?k1 ?k2 ?k3 ?k4 ?k5 ?k6 ?_; (case k1 => k_asm); (case k2 => k_asm); (case k3 => k_asm); (case k4 => k_is); (case k5 => k_is); (case k6 => k_is); k_whole; intro x' d' h' F' N' l1 l2; (try k_lt l1); (try k_lt2 l2); (try k_sweep); fold_lay)
  | (refine' call_meth ?k1 ?k2 ?_; (case k1 => k_asm); (case k2 => k_mem); k_whole; fold_lay)
  | (refine wpAny_call ?_; fold_lay))))
local macro_rules | `(tactic| ktr_units) => `(tactic| ((simp only [units_in1, units_deeper, Around.mark_units, units_make, units_ktr, cLine_is] at *); omega))
local macro_rules | `(tactic| ksw_less) => `(tactic| first | with_reducible exact sub3 | with_reducible assumption | (refine sub1 (by k_mem) ?_; ksw_less) | (refine sub2 ?_; ksw_less))
local macro_rules | `(tactic| k_mem) => `(tactic| ((fail_if_success (apply List.Mem.tail)); assumption))
theorem OkI.mono {Tx Tx' : List Str} {U : Term} (h : OkI Tx U) (hs : ∀ (i : Nat) t, Tx[i]? = some t → Tx'[i]? = some t) : OkI Tx' U := by
  cases h with
  | v h0 h1 => exact .v h0 h1
  | fi h => exact .fi h
  | fa h0 h1 h2 => exact .fa h0 h1 (hs _ _ h2)
theorem atomTo_mono {T T' : List Str} {t : Str} {i : Int} (h : AtomTo T t T' i) : ∀ (i : Nat) u, T[i]? = some u → T'[i]? = some u := by
  intro k u hu
  rcases h with ⟨rfl, _, _⟩ | ⟨rfl, _, _⟩
  · exact hu
  · rw [List.getElem?_append_left (List.getElem?_eq_some_iff.mp hu).1]; exact hu
theorem told_hit {nb : Bool} {c : Tbl} {k : Int} {t : Str} (h : look c k = some t) : t = told nb c (.v k) := by
  show t = nameT c k
  unfold nameT; rw [h]
theorem told_num {nb : Bool} {c : Tbl} {f : Int} (h1 : nb = true) (h2 : 0 ≤ f) : varT f = told nb c (.fn (.i f)) := by
  show _ = if nb = true ∧ 0 ≤ f then varT f else _
  rw [if_pos ⟨h1, h2⟩]
theorem told_neg {nb : Bool} {c : Tbl} {f : Int} (h : ¬(nb = true ∧ 0 ≤ f)) : Str.ofString "'$VAR'(" ++ numT f ++ Str.ofString ")" = told nb c (.fn (.i f)) := by
  show _ = if nb = true ∧ 0 ≤ f then varT f else _
  rw [if_neg h]
theorem ne_cons {a I : Nat} {o : Obj} {r : Led} (h : @Ne Nat a I) (k : ∀ p ∈ r, p.1 ≠ I) : ∀ p ∈ (a, o) :: r, p.1 ≠ I := List.forall_mem_cons.mpr ⟨h, k⟩
theorem gen_look {c : Tbl} {k : Int} {P : Prop} (_h : look c k = none) (f : ∀ K, K = k → P) : P := f k rfl
theorem flat_vals {kn : List (Int × Value)} : ∀ {c : Tbl}, FlatPairs PyData.int kn (tblD c) → StrsAre (kn.map (·.2)) (vals c) := by
  induction kn with
  | nil => intro c h; cases c with
    | nil => exact .nil
    | cons p c => cases h
  | cons q kn ih => intro c h; cases c with
    | nil => cases h
    | cons p c =>
      obtain ⟨k, v⟩ := q
      cases h with
      | cons h1 h2 =>
        obtain ⟨t, rfl⟩ := PyProof.V.Flat.str_inv h1
        exact .cons _ _ (ih h2)
theorem fm7 (x : Int) : 0 ≤ Int.fmod x 7 ∧ Int.fmod x 7 < 7 := by
  rw [Int.fmod_eq_emod_of_nonneg _ (by decide)]
  omega
theorem fmd6 (x : Int) : 0 ≤ Int.fmod x 6 ∧ Int.fmod x 6 < 6 ∧ Int.fmod x 6 < 1000 := by
  rw [Int.fmod_eq_emod_of_nonneg _ (by decide)]
  omega
theorem six {v : Value} {t1 t2 t3 t4 t5 t6 : Tok} (h : v ∈ [Value.int 0 t1, .int 25 t2, .int 26 t3, .int 27 t4, .int 700 t5, .int (-1) t6]) : ∃ f t, v = .int f t ∧ f ∈ [(0 : Int), 25, 26, 27, 700, -1] := by
  simp only [List.mem_cons, List.not_mem_nil, or_false] at h
  rcases h with rfl | rfl | rfl | rfl | rfl | rfl <;> exact ⟨_, _, rfl, by decide⟩
section
variable {prog : Program} {w : World} {A : Around} {E : Value → Shared → Prop} {s : Shared} {d v : Addr} {h₀ : Heap} {L : Addr} {news : Led} {m : Str → Option Value}
theorem in_vals {c : Tbl} {t : Str} {tk : Tok} {o : Obj} {kn : List (Int × Value)} {Q : Value → Shared → Prop} (hh : A.in1.handled = none) (F : Fr h₀ L s.heap m) (N : News h₀ L s.heap news) (hv : s.heap.IsValuesView v d) (hd : (d, o) ∈ news) (ho : o.IsDictOf (PySem.intKind prog w) kn) (hf : FlatPairs PyData.int kn (tblD c))
    (h1 : (vals c).any (· == t) = true → ∀ h' tk, Fr h₀ L h' m → News h₀ L h' news → Q (.bool true) { s with heap := h', toks := tk }) (h2 : (vals c).any (· == t) = false → ∀ h' tk, Fr h₀ L h' m → News h₀ L h' news → Q (.bool false) { s with heap := h', toks := tk }) :
    wpAny (model prog w) A (compareOp .In (.str t tk) (.ref v)) Q E s := by
  have hvv := hv
  have hy := flat_vals hf
  obtain ⟨es, ep, hc, hdat, hk0, hp, hn⟩ := ho
  have hat : s.heap.DictAt (PySem.intKind prog w) d kn ep := ⟨o, es, (N _ hd).1, hc, hdat, hk0, hp, hn⟩
  have hne : d ≠ s.heap.objs.size := Nat.ne_of_lt hat.lt_size
  show wpAny _ _ (contains (.ref v) (.str t tk) >>= _) Q E s
  refine wpAny_bind ?_
  unfold contains
  refine wpAny_holding ?_
  rw [stdlibNamesSay?_of_typeIs hvv.typeIs]
  refine wpAny_bind (wpAny_specialOf hvv.typeIs values_no_contains ?_)
  refine wpAny_bind (wpAny_callSpecialUnlessNone?_none (name := Str.ofString "__contains__") hvv.typeIs values_no_contains ?_)
  refine wpAny_bind (wpAny_rule ?_)
  refine wpAny_bind (wpAny_tryCatch (wpAny_pyIter_values hvv hat ?_))
  refine wpAny_bind (wpAny_runValue (contains_iter_vals (knd := PySem.intKind prog w) hh hne hy t tk kn.length 0 _ _ rfl (Nat.zero_le _) ⟨_, Heap.get?_push_size _ rfl, rfl, rfl⟩ (hat.push _) fun h' tk hm => ?_))
  refine wpAny_pure ?_
  refine wpAny_pure ?_
  have hk : ∀ b o, s.heap.get? b = some o → h'.get? b = some o := fun b o e =>
    hm b o (fun hb => absurd (Heap.lt_size e) (by rw [List.mem_singleton.mp hb]; exact Nat.lt_irrefl _)) (Heap.get?_push_of_some _ e)
  have hQ : ∀ b, (vals c).any (· == t) = b → ∀ h' tk, Fr h₀ L h' m → News h₀ L h' news → Q (.bool b) { s with heap := h', toks := tk } := fun b => by
    cases b with
    | true => exact h1
    | false => exact h2
  exact hQ _ rfl h' tk ⟨F.ns.at fun o e => hk L o e, fun b o e => hk b o (F.keep b o e), F.above⟩ fun p hp => ⟨hk _ _ (N p hp).1, (N p hp).2⟩
end
theorem str_fig {prog : Program} {w : World} {A : Around} {E : Value → Shared → Prop} {s : Shared} {f : Int} {tk : Tok} {Q : Value → Shared → Prop} (hf : f ∈ [(0 : Int), 25, 26, 27, 700, -1]) (h : ∀ t k', Q (.str (numT f) t) { s with toks := k' }) : wpAny (model prog w) A (call (.type "str") [.int f tk]) Q E s := by
  have e : numT f = Str.ofString (toString f) := by
    simp only [List.mem_cons, List.not_mem_nil, or_false] at hf
    rcases hf with rfl | rfl | rfl | rfl | rfl | rfl <;> decide +kernel
  rw [e] at h
  refine P.str_of_int ?_ (h _ _)
  simp only [List.mem_cons, List.not_mem_nil, or_false] at hf
  rcases hf with rfl | rfl | rfl | rfl | rfl | rfl <;> decide +kernel
theorem six_or {f : Int} (hf : f ∈ [(0 : Int), 25, 26, 27, 700, -1]) : f = 0 ∨ f = 25 ∨ f = 26 ∨ f = 27 ∨ f = 700 ∨ f = -1 := by
  simpa only [List.mem_cons, List.not_mem_nil, or_false] using hf
local macro_rules | `(tactic| walk_at "call type:str") => `(tactic| (k_here; (with_reducible show wpAny _ _ (call (Value.type "str") [Value.int _ _]) _ _ _); (refine str_fig (by with_reducible assumption) ?_); intro t9 k9))
local macro_rules | `(tactic| walk_at "binaryOp Mod int int") => `(tactic| (k_here; (with_reducible rename _ ∈ [(0 : Int), 25, 26, 27, 700, -1] => hf8); (rcases six_or hf8 with hf7 | hf7 | hf7 | hf7 | hf7 | hf7) <;> (subst hf7; clear hf8; try (exfalso; omega))))
theorem num_len {f : Int} (hf : f ∈ [(0 : Int), 25, 26, 27, 700, -1]) : (numT f).length ≤ 3 := by
  rcases six_or hf with rfl | rfl | rfl | rfl | rfl | rfl <;> decide +kernel
theorem cat_one {prog : Program} {w : World} {A : Around} {E : Value → Shared → Prop} {s : Shared} {h₀ : Heap} {L a b : Addr} {m : Str → Option Value} {news : Led} {x : Value} {vs : List Value} {n1 n2 : Nat} {Q : Value → Shared → Prop} (F : Fr h₀ L s.heap m) (N : News h₀ L s.heap news) (ha : (a, listOf [x].toArray n1) ∈ news) (hb : (b, listOf vs.toArray n2) ∈ news) (hz : vs.length ≤ 1000)
    (h : ∀ D h', Fr h₀ L h' m → News h₀ L h' ((D, listOf (x :: vs).toArray 0) :: news) → (∀ p ∈ news, p.1 < D) → Q (.ref D) { s with heap := h' }) : wpAny (model prog w) A (binaryOp .Add (.ref a) (.ref b)) Q E s :=
  add_lists F N (News.isList N ha) (News.isList N hb) (fun h' F' N' => h _ h' F' N' fun p hp => Heap.lt_size (N p hp).1) (by simp only [sizeLine_eq, List.length_cons, List.length_nil]; omega)
local macro_rules | `(tactic| walk_at "binaryOp Add ref ref") => `(tactic| (k_here; (with_reducible show wpAny _ _ (binaryOp _ (Value.ref _) (Value.ref _)) _ _ _); k_dflt (refine cat_one (by k_asm) (by k_asm) (by k_mem) (by k_mem) (by omega) ?_); intro D' h' F' N' l1; (try k_lt l1); (try k_sweep)))
local macro_rules | `(tactic| size_fits) => `(tactic| (simp only [List.size_toArray, List.length_cons, List.length_nil, List.length_append, PySem.sizeLine_eq]; first | decide | omega))
theorem toks_plus {prog : Program} {w : World} {A : Around} {E : Value → Shared → Prop} {α : Type} {c : Sem α} {Q : α → Shared → Prop} {h : Heap} {g : Array GenState} {dr : Drawn} {os : OsState} {x : Nat} (hh : ∀ tk, wpAny (model prog w) A c Q E ⟨h, g, dr, tk, os⟩) : wpAny (model prog w) A c Q E ⟨h, g, dr, x + 1, os⟩ := hh (x + 1)
theorem toks_plus2 {prog : Program} {w : World} {A : Around} {E : Value → Shared → Prop} {α : Type} {c : Sem α} {Q : α → Shared → Prop} {h : Heap} {g : Array GenState} {dr : Drawn} {os : OsState} {x y : Nat} (hh : ∀ tk, wpAny (model prog w) A c Q E ⟨h, g, dr, tk, os⟩) : wpAny (model prog w) A c Q E ⟨h, g, dr, x + y, os⟩ := hh (x + y)
local macro_rules | `(tactic| walk_at "execs cons") => `(tactic| (k_here; (with_reducible first | refine toks_plus (fun tk => ?_) | refine toks_plus2 (fun tk => ?_))))
def StopT (p : Prop) : Prop := p
theorem stopperT {p : Prop} (h : StopT p) : p := h
local macro_rules | `(tactic| walk_at "subscriptTail") => `(tactic| (k_here; (with_reducible show wpAny _ _ (subscriptTail _ _ (Value.ref _) (Value.int _ _)) _ _ _); k_dflt (refine item_tbl (TabAt.ofNews (by k_asm) (by k_mem) (by k_asm) (by k_asm) (by k_asm)) (by assumption) ?_); intro u9))
local macro_rules | `(tactic| walk_at "getItem ref int") => `(tactic| (k_here; k_dflt (refine get_tbl (TabAt.ofNews (by k_asm) (by k_mem) (by k_asm) (by k_asm) (by k_asm)) (by assumption) ?_); intro u9))
local macro_rules | `(tactic| walk_at "subscriptTail") => `(tactic| (k_here; (with_reducible show wpAny _ _ (subscriptTail _ _ (Value.ref _) (Value.int _ _)) _ _ _); k_dflt (refine item_row (by k_asm) (by k_mem) (fmd6 _).1 (fmd6 _).2.1 (fmd6 _).2.2 ?_); intro v9 hv9; (obtain ⟨f9, tf9, hv9', hf9⟩ := six hv9); (clear hv9); (subst hv9'); (have hnl9 := num_len hf9)))
local macro_rules | `(tactic| walk_at "subscriptTail") => `(tactic| (k_here; (with_reducible show wpAny _ _ (subscriptTail _ _ (Value.ref _) (Value.int _ _)) _ _ _); k_dflt (refine item_cell (by k_asm) (by k_mem) (by with_reducible assumption) (by omega) (by omega) (by with_reducible assumption) (by with_reducible assumption) ?_); intro x9 t9 hx9))
local macro_rules | `(tactic| walk_at "compareOp In int ref") => `(tactic| (k_here; k_dflt (refine in_tbl (TabAt.ofNews (by k_asm) (by k_mem) (by k_asm) (by k_asm) (by k_asm)) (fun t9 l9 => ?_) (fun l9 => ?_))))
local macro_rules | `(tactic| walk_at "call type:str") => `(tactic| (k_here; (with_reducible show wpAny _ _ (call (Value.type "str") [Value.int _ _]) _ _ _); (refine str_small (fm7 _).1 (by assumption) ?_); intro t9 k9))
local macro_rules | `(tactic| walk_at "getMethod ref") => `(tactic| (k_here; (with_reducible show wpAny _ _ (getMethod (Value.ref _) (Str.ofString "values") _) _ _ _); k_dflt (refine getMethod_tab (knd := PySem.intKind _ _) (enc := PyData.int) PySem.F.slot_dict_values PySem.F.type_dict_values (TabAt.ofNews (by k_asm) (by k_mem) (by k_asm) (by k_asm) (by k_asm)) ?_)))
local macro_rules | `(tactic| walk_at "call builtin:dict.values") => `(tactic| (k_here; k_dflt (refine call_values_tab (knd := PySem.intKind _ _) (enc := PyData.int) (TabAt.ofNews (by k_asm) (by k_mem) (by k_asm) (by k_asm) (by k_asm)) (by k_asm) (by k_asm) ?_); intro h9 o9 hv9 F9 N9; (replace N9 := kti_tail N9)))
local macro_rules | `(tactic| walk_at "compareOp In str ref") => `(tactic| (k_here; k_dflt (refine in_vals (by rfl) (by k_asm) (by k_asm) (by assumption) (by k_mem) (by k_asm) (by k_asm) (fun l9 h9 t9 F9 N9 => ?_) (fun l9 h9 t9 F9 N9 => ?_))))
local macro_rules | `(tactic| walk_at "exec While") => `(tactic| (k_here; refine whl_go ?_))
local macro_rules | `(tactic| walk_at "exec While Compare") => `(tactic| (k_here; refine whl_go ?_))
local macro_rules | `(tactic| walk_at "exec While Compare cons nil") => `(tactic| (k_here; refine whl_go ?_))
local macro_rules | `(tactic| walk_at "WhlP") => `(tactic| (dsimp only [WhlP]))
local macro_rules | `(tactic| walk_at "call ref") => `(tactic| (k_here; (with_unfolding_all show wpAny _ _ (call (Value.ref 56) [Value.ref _, Value.str (Str.ofString "k") _]) _ _ _); k_dflt (refine' does_use ?B ?F ?X ?N ?T ?hk (atom_spec ?a1 ?a2 ?a3 ?a4 ?a5 ?a6 ?a7) ?pk ?hd ?hu ?_; (case B => k_asm); (case F => k_asm); (case X => k_asm); (case N => k_asm); (case T => k_asm); (case hk => first | exact rfl | assumption); (case pk => (refine' Pk.cons ?q1 (Pk.cons ?q2 (Pk.cons ?q3 (Pk.cons ?q4 Pk.nil))); (case q1 => kbt_split); (case q2 => kbt_split); (case q3 => kbt_split); (case q4 => kbt_split))); (case a1 => assumption); (case a2 => assumption); (case a3 => assumption); (case a4 => assumption); (case a5 => omega); (case a6 => tlg_ne); (case a7 => omega); (case hd => ktr_room); (case hu => ktr_units)); intro r9 n9 h9 t9 p9 F9 N9; (obtain ⟨i9, ti9, T9, vs9, nt9, on9, kvs9, hr9, hA9, hs9, hd9, hf9, hled9⟩ := p9); (subst hr9); (subst hled9); (try dsimp only)))
local macro_rules | `(tactic| walk_at "UnrEnd") => `(tactic| (k_here; refine stopperT ?_))
local macro_rules | `(tactic| walk_at "UnrPost") => `(tactic| (dsimp only [UnrPost]))


set_option maxHeartbeats 4000000 in
theorem turn_law : S2.1.1 := by
  intro z58
  set_option tactic.hygienic false in intros
  have hi := a
  have hJ := a_1
  have ho := a_2
  have F := a_3
  have N := a_4
  clear a a_1 a_2 a_3 a_4
  obtain ⟨Ts, dv, tolds, cnt, a, du, rr, Tx, vT, nt, ob, kvb, hm1, hm2, hm3, hm4, hm5, hm6, hm7, hch, hdv, htl, hok, hlen, hvT, hob, hfb, hTok, hTl, hoff, hdu, hnx⟩ := hJ
  rw [name_form hm1] at F
  rw [name_form hm2] at F
  rw [name_form hm3] at F
  rw [name_form hm4] at F
  rw [name_form hm5] at F
  rw [name_form hm6] at F
  rw [name_form hm7] at F
  dsimp only at F
  subst hnx
  have hi6 : i < 6 := by omega
  have hdvl : dv.length ≤ 5 := by rw [hdv.length, htl, List.length_map]; omega
  clear hi hr4 zz_27 zz_34 zz_12
  simp only [List.forall_mem_cons] at ho
  obtain ⟨q0, q1, q2, q3, q4, q5, q6, q7, q8, q9, q10, q11, q12, hIr⟩ := ho
  have hIx : @Ne Nat I xs ∧ @Ne Nat I ds ∧ @Ne Nat I bt ∧ @Ne Nat I bn := ⟨fun e => q6 e.symm, fun e => q7 e.symm, fun e => q8 e.symm, fun e => q9 e.symm⟩
  k_steps
  · unfold StopT
    rename_i hk4 _ D2 _ l3 _ _ _ _ _ _ _ _ _ t9 l9 _ u9 _ _ L5 _ m2 D3 _ n2 _ _ D1 _ n1 D0 _ n0 _ kF kN
    have hz : @Ne Nat D0 I ∧ @Ne Nat D1 I ∧ @Ne Nat D2 I ∧ @Ne Nat D3 I := by omega
    obtain ⟨zD0, zD1, zD2, zD3⟩ := hz
    refine UnrEnd.intro kF kN _ (by (repeat (refine sub1 ?_ ?_; focus k_mem)); intro p hp; (repeat (first | exact hp | apply List.Mem.tail))) ?offA ⟨.v _ :: Ts, _, _ :: tolds, 0, D0, D3, (D0, _) :: (D1, _) :: (D2, _) :: rr, Tx, vT, nt, ob, kvb, rfl, rfl, rfl, rfl, rfl, rfl, rfl, .cons (.head _) (.tail _ (.head _)) (.v (.tail _ (.tail _ (.head _)))) (hch.mono fun p hp => (.tail _ (.tail _ (.tail _ hp)))), .cons _ _ hdv, ?eqA, List.forall_mem_cons.mpr ⟨.v (fm7 _).1 hk4, hok⟩, by rw [List.length_cons, hlen], hvT, hob, hfb, hTok, by omega, off_cons (by simp only [NeAll, and_true]; omega) (off_cons (by simp only [NeAll, and_true]; omega) (off_cons (by simp only [NeAll, and_true]; omega) (hoff))), by omega, rfl⟩
    case offA =>
      refine ne_cons zD3 ?_
      refine ne_cons q1 ?_
      refine ne_cons q2 ?_
      refine ne_cons q3 ?_
      refine ne_cons q4 ?_
      refine ne_cons q5 ?_
      refine ne_cons q6 ?_
      refine ne_cons q7 ?_
      refine ne_cons q8 ?_
      refine ne_cons q9 ?_
      refine ne_cons q10 ?_
      refine ne_cons q11 ?_
      refine ne_cons q12 ?_
      refine ne_cons zD0 ?_
      refine ne_cons zD1 ?_
      refine ne_cons zD2 ?_
      exact hIr
    case eqA =>
      rw [List.map_cons, ← htl]
      congr 1
      exact told_hit l9
  · rename_i hk4 _ D2 _ l3 _ _ _ _ t1 _ hln _ lF lN _ l9 _
    refine gen_look l9 fun K hK => ?_
    have hk0 := (fm7 (C.getD (3 + (0 + (i : Int))).toNat 0)).1
    rw [← hK] at l9 hk4 hk0 lF lN
    clear hln
    have hlen9 := len_small hk0 hk4
    have hsh := tables_short hcT
    refine whl_use (J := fun n m nx => ∃ t tt t5 t6, m (Str.ofString "book") = some (.ref xs) ∧ m (Str.ofString "operators") = some (.ref y) ∧ m (Str.ofString "numbervars") = some (.bool nb) ∧ m (Str.ofString "names") = some (.ref dn) ∧ m (Str.ofString "cells") = some (.ref Dc) ∧ m (Str.ofString "rest") = some (.ref a) ∧ m (Str.ofString "due") = some (.ref du) ∧ m (Str.ofString "side") = some (.ref D2) ∧ m (Str.ofString "told") = some (.str t tt) ∧
      5 ≤ t.length + n ∧ grow (vals c) n t = nameT c K ∧ t.length ≤ 20 ∧ nx = (D2, tupO [.str (Str.ofString "v") t5, .int K t6]) :: (I, it) :: (du, listOf dv.toArray cnt) :: (dn, on) :: (y, instObj 287 dy) :: (dy, opsDict f1 f2 f3 f4 m1 m2 m3 m4 xs bp bi bq gdy) :: (bp, op) :: (bq, oq) :: (xs, instObj 122 ds) :: (ds, symDict g1 g2 g3 g4 j1 j2 j3 j4 bt bn bf bg nds) :: (bt, listOf vT.toArray nt) :: (bn, ob) :: (bf, listOf Fs.toArray nf) :: (k17, tupO [.int 26 tf1, .int 1 tf2]) :: (Dc, listOf ws.toArray 0) :: rr) lF lN (by first | passes_own | with_unfolding_all passes_own) ?turnW ⟨4, _, by first | ksw_less | fail, _, _, _, _, rfl, rfl, rfl, rfl, rfl, rfl, rfl, rfl, rfl, ?wa, ?wb, ?wc, rfl⟩
    case wa => rw [Str.length_append, hlen9]; decide +kernel
    case wb => unfold nameT; rw [l9]; rfl
    case wc => rw [Str.length_append, hlen9]; decide +kernel
    case turnW =>
      intro n m nx h tk hJ F N
      obtain ⟨t, tt, t5, t6, w1, w2, w3, w4, w5, w6, w7, w8, w9, hg1, hg2, hg3, hnx⟩ := hJ
      rw [name_form w1] at F
      rw [name_form w2] at F
      rw [name_form w3] at F
      rw [name_form w4] at F
      rw [name_form w5] at F
      rw [name_form w6] at F
      rw [name_form w7] at F
      rw [name_form w8] at F
      rw [name_form w9] at F
      dsimp only at F
      subst hnx
      clear lF lN
      k_steps
      · rename_i l9 _ _ _ _ _ _ _ _ kF kN
        have hE := grow_step hsh l9 hg1
        obtain ⟨hn, hgs⟩ := hE
        refine whl_stop _ kF kN (by first | ksw_less | fail) ⟨n - 1, by omega, _, _, _, _, rfl, rfl, rfl, rfl, rfl, rfl, rfl, rfl, rfl, ?_, hgs ▸ hg2, ?_, rfl⟩
        · rw [Str.length_append, show (Str.ofString "_").length = 1 from by decide +kernel]; omega
        · by_cases h5 : 5 ≤ t.length
          · rw [short_any hsh h5] at l9; cases l9
          · rw [Str.length_append, show (Str.ofString "_").length = 1 from by decide +kernel]; omega
      · unfold StopT
        rename_i l9 _ _ L5 _ l3 D3 _ zF zN n2 _ _ D1 _ n1 D0 _ n0 _ kF kN
        have hz : @Ne Nat D0 I ∧ @Ne Nat D1 I ∧ @Ne Nat D2 I ∧ @Ne Nat D3 I := by omega
        obtain ⟨zD0, zD1, zD2, zD3⟩ := hz
        refine UnrEnd.intro kF kN _ (by (repeat (refine sub1 ?_ ?_; focus k_mem)); intro p hp; (repeat (first | exact hp | apply List.Mem.tail))) ?offW ⟨.v K :: Ts, _, _ :: tolds, 0, D0, D3, (D0, _) :: (D1, _) :: (D2, _) :: rr, Tx, vT, nt, ob, kvb, rfl, rfl, rfl, rfl, rfl, rfl, rfl, .cons (.head _) (.tail _ (.head _)) (.v (.tail _ (.tail _ (.head _)))) (hch.mono fun p hp => (.tail _ (.tail _ (.tail _ hp)))), .cons _ _ hdv, ?eqW, List.forall_mem_cons.mpr ⟨.v hk0 hk4, hok⟩, by rw [List.length_cons, hlen], hvT, hob, hfb, hTok, by omega, off_cons (by simp only [NeAll, and_true]; omega) (off_cons (by simp only [NeAll, and_true]; omega) (off_cons (by simp only [NeAll, and_true]; omega) (hoff))), by omega, rfl⟩
        case offW =>
          refine ne_cons zD3 ?_
          refine ne_cons q1 ?_
          refine ne_cons q2 ?_
          refine ne_cons q3 ?_
          refine ne_cons q4 ?_
          refine ne_cons q5 ?_
          refine ne_cons q6 ?_
          refine ne_cons q7 ?_
          refine ne_cons q8 ?_
          refine ne_cons q9 ?_
          refine ne_cons q10 ?_
          refine ne_cons q11 ?_
          refine ne_cons q12 ?_
          refine ne_cons zD0 ?_
          refine ne_cons zD1 ?_
          refine ne_cons zD2 ?_
          exact hIr
        case eqW =>
          rw [List.map_cons, ← htl]
          congr 1
          show t = nameT c K
          rw [← hg2, grow_stop l9]
  · unfold StopT
    rename_i _ Z1 _ _ Z2 _ _ D2 _ l3 _ _ hnb _ _ _ _ _ _ _ _ _ L5 _ m2 D3 _ n2 _ _ D1 _ n1 D0 _ n0 _ kF kN
    have hz : @Ne Nat D0 I ∧ @Ne Nat D1 I ∧ @Ne Nat D2 I ∧ @Ne Nat Z2 I ∧ @Ne Nat Z1 I ∧ @Ne Nat D3 I := by omega
    obtain ⟨zD0, zD1, zD2, zZ2, zZ1, zD3⟩ := hz
    refine UnrEnd.intro kF kN _ (by (repeat (refine sub1 ?_ ?_; focus k_mem)); intro p hp; (repeat (first | exact hp | apply List.Mem.tail))) ?offB0 ⟨.fn (.i 0) :: Ts, _, _ :: tolds, 0, D0, D3, (D0, _) :: (D1, _) :: (D2, _) :: (Z2, _) :: (Z1, _) :: rr, Tx, vT, nt, ob, kvb, rfl, rfl, rfl, rfl, rfl, rfl, rfl, .cons (.head _) (.tail _ (.head _)) (.fn (.tail _ (.tail _ (.head _))) (.tail _ (.tail _ (.tail _ (.head _)))) (.i (.tail _ (.tail _ (.tail _ (.tail _ (.head _))))))) (hch.mono fun p hp => (.tail _ (.tail _ (.tail _ (.tail _ (.tail _ hp)))))), .cons _ _ hdv, ?eqB0, List.forall_mem_cons.mpr ⟨.fi (by decide), hok⟩, by rw [List.length_cons, hlen], hvT, hob, hfb, hTok, by omega, off_cons (by simp only [NeAll, and_true]; omega) (off_cons (by simp only [NeAll, and_true]; omega) (off_cons (by simp only [NeAll, and_true]; omega) (off_cons (by simp only [NeAll, and_true]; omega) (off_cons (by simp only [NeAll, and_true]; omega) (hoff))))), by omega, rfl⟩
    case offB0 =>
      refine ne_cons zD3 ?_
      refine ne_cons q1 ?_
      refine ne_cons q2 ?_
      refine ne_cons q3 ?_
      refine ne_cons q4 ?_
      refine ne_cons q5 ?_
      refine ne_cons q6 ?_
      refine ne_cons q7 ?_
      refine ne_cons q8 ?_
      refine ne_cons q9 ?_
      refine ne_cons q10 ?_
      refine ne_cons q11 ?_
      refine ne_cons q12 ?_
      refine ne_cons zD0 ?_
      refine ne_cons zD1 ?_
      refine ne_cons zD2 ?_
      refine ne_cons zZ2 ?_
      refine ne_cons zZ1 ?_
      exact hIr
    case eqB0 =>
      rw [List.map_cons, ← htl]
      congr 1
      exact (by decide +kernel : _ = varT 0).trans (told_num hnb (by decide))
  · unfold StopT
    rename_i _ Z1 _ _ Z2 _ _ D2 _ l3 _ _ hnb _ _ _ _ _ _ _ _ _ L5 _ m2 D3 _ n2 _ _ D1 _ n1 D0 _ n0 _ kF kN
    have hz : @Ne Nat D0 I ∧ @Ne Nat D1 I ∧ @Ne Nat D2 I ∧ @Ne Nat Z2 I ∧ @Ne Nat Z1 I ∧ @Ne Nat D3 I := by omega
    obtain ⟨zD0, zD1, zD2, zZ2, zZ1, zD3⟩ := hz
    refine UnrEnd.intro kF kN _ (by (repeat (refine sub1 ?_ ?_; focus k_mem)); intro p hp; (repeat (first | exact hp | apply List.Mem.tail))) ?offB1 ⟨.fn (.i 25) :: Ts, _, _ :: tolds, 0, D0, D3, (D0, _) :: (D1, _) :: (D2, _) :: (Z2, _) :: (Z1, _) :: rr, Tx, vT, nt, ob, kvb, rfl, rfl, rfl, rfl, rfl, rfl, rfl, .cons (.head _) (.tail _ (.head _)) (.fn (.tail _ (.tail _ (.head _))) (.tail _ (.tail _ (.tail _ (.head _)))) (.i (.tail _ (.tail _ (.tail _ (.tail _ (.head _))))))) (hch.mono fun p hp => (.tail _ (.tail _ (.tail _ (.tail _ (.tail _ hp)))))), .cons _ _ hdv, ?eqB1, List.forall_mem_cons.mpr ⟨.fi (by decide), hok⟩, by rw [List.length_cons, hlen], hvT, hob, hfb, hTok, by omega, off_cons (by simp only [NeAll, and_true]; omega) (off_cons (by simp only [NeAll, and_true]; omega) (off_cons (by simp only [NeAll, and_true]; omega) (off_cons (by simp only [NeAll, and_true]; omega) (off_cons (by simp only [NeAll, and_true]; omega) (hoff))))), by omega, rfl⟩
    case offB1 =>
      refine ne_cons zD3 ?_
      refine ne_cons q1 ?_
      refine ne_cons q2 ?_
      refine ne_cons q3 ?_
      refine ne_cons q4 ?_
      refine ne_cons q5 ?_
      refine ne_cons q6 ?_
      refine ne_cons q7 ?_
      refine ne_cons q8 ?_
      refine ne_cons q9 ?_
      refine ne_cons q10 ?_
      refine ne_cons q11 ?_
      refine ne_cons q12 ?_
      refine ne_cons zD0 ?_
      refine ne_cons zD1 ?_
      refine ne_cons zD2 ?_
      refine ne_cons zZ2 ?_
      refine ne_cons zZ1 ?_
      exact hIr
    case eqB1 =>
      rw [List.map_cons, ← htl]
      congr 1
      exact (by decide +kernel : _ = varT 25).trans (told_num hnb (by decide))
  · unfold StopT
    rename_i _ Z1 _ _ Z2 _ _ D2 _ l3 _ _ hnb _ _ _ _ _ _ _ _ _ L5 _ m2 D3 _ n2 _ _ D1 _ n1 D0 _ n0 _ kF kN
    have hz : @Ne Nat D0 I ∧ @Ne Nat D1 I ∧ @Ne Nat D2 I ∧ @Ne Nat Z2 I ∧ @Ne Nat Z1 I ∧ @Ne Nat D3 I := by omega
    obtain ⟨zD0, zD1, zD2, zZ2, zZ1, zD3⟩ := hz
    refine UnrEnd.intro kF kN _ (by (repeat (refine sub1 ?_ ?_; focus k_mem)); intro p hp; (repeat (first | exact hp | apply List.Mem.tail))) ?offB2 ⟨.fn (.i 26) :: Ts, _, _ :: tolds, 0, D0, D3, (D0, _) :: (D1, _) :: (D2, _) :: (Z2, _) :: (Z1, _) :: rr, Tx, vT, nt, ob, kvb, rfl, rfl, rfl, rfl, rfl, rfl, rfl, .cons (.head _) (.tail _ (.head _)) (.fn (.tail _ (.tail _ (.head _))) (.tail _ (.tail _ (.tail _ (.head _)))) (.i (.tail _ (.tail _ (.tail _ (.tail _ (.head _))))))) (hch.mono fun p hp => (.tail _ (.tail _ (.tail _ (.tail _ (.tail _ hp)))))), .cons _ _ hdv, ?eqB2, List.forall_mem_cons.mpr ⟨.fi (by decide), hok⟩, by rw [List.length_cons, hlen], hvT, hob, hfb, hTok, by omega, off_cons (by simp only [NeAll, and_true]; omega) (off_cons (by simp only [NeAll, and_true]; omega) (off_cons (by simp only [NeAll, and_true]; omega) (off_cons (by simp only [NeAll, and_true]; omega) (off_cons (by simp only [NeAll, and_true]; omega) (hoff))))), by omega, rfl⟩
    case offB2 =>
      refine ne_cons zD3 ?_
      refine ne_cons q1 ?_
      refine ne_cons q2 ?_
      refine ne_cons q3 ?_
      refine ne_cons q4 ?_
      refine ne_cons q5 ?_
      refine ne_cons q6 ?_
      refine ne_cons q7 ?_
      refine ne_cons q8 ?_
      refine ne_cons q9 ?_
      refine ne_cons q10 ?_
      refine ne_cons q11 ?_
      refine ne_cons q12 ?_
      refine ne_cons zD0 ?_
      refine ne_cons zD1 ?_
      refine ne_cons zD2 ?_
      refine ne_cons zZ2 ?_
      refine ne_cons zZ1 ?_
      exact hIr
    case eqB2 =>
      rw [List.map_cons, ← htl]
      congr 1
      exact (by decide +kernel : _ = varT 26).trans (told_num hnb (by decide))
  · unfold StopT
    rename_i _ Z1 _ _ Z2 _ _ D2 _ l3 _ _ hnb _ _ _ _ _ _ _ _ _ L5 _ m2 D3 _ n2 _ _ D1 _ n1 D0 _ n0 _ kF kN
    have hz : @Ne Nat D0 I ∧ @Ne Nat D1 I ∧ @Ne Nat D2 I ∧ @Ne Nat Z2 I ∧ @Ne Nat Z1 I ∧ @Ne Nat D3 I := by omega
    obtain ⟨zD0, zD1, zD2, zZ2, zZ1, zD3⟩ := hz
    refine UnrEnd.intro kF kN _ (by (repeat (refine sub1 ?_ ?_; focus k_mem)); intro p hp; (repeat (first | exact hp | apply List.Mem.tail))) ?offB3 ⟨.fn (.i 27) :: Ts, _, _ :: tolds, 0, D0, D3, (D0, _) :: (D1, _) :: (D2, _) :: (Z2, _) :: (Z1, _) :: rr, Tx, vT, nt, ob, kvb, rfl, rfl, rfl, rfl, rfl, rfl, rfl, .cons (.head _) (.tail _ (.head _)) (.fn (.tail _ (.tail _ (.head _))) (.tail _ (.tail _ (.tail _ (.head _)))) (.i (.tail _ (.tail _ (.tail _ (.tail _ (.head _))))))) (hch.mono fun p hp => (.tail _ (.tail _ (.tail _ (.tail _ (.tail _ hp)))))), .cons _ _ hdv, ?eqB3, List.forall_mem_cons.mpr ⟨.fi (by decide), hok⟩, by rw [List.length_cons, hlen], hvT, hob, hfb, hTok, by omega, off_cons (by simp only [NeAll, and_true]; omega) (off_cons (by simp only [NeAll, and_true]; omega) (off_cons (by simp only [NeAll, and_true]; omega) (off_cons (by simp only [NeAll, and_true]; omega) (off_cons (by simp only [NeAll, and_true]; omega) (hoff))))), by omega, rfl⟩
    case offB3 =>
      refine ne_cons zD3 ?_
      refine ne_cons q1 ?_
      refine ne_cons q2 ?_
      refine ne_cons q3 ?_
      refine ne_cons q4 ?_
      refine ne_cons q5 ?_
      refine ne_cons q6 ?_
      refine ne_cons q7 ?_
      refine ne_cons q8 ?_
      refine ne_cons q9 ?_
      refine ne_cons q10 ?_
      refine ne_cons q11 ?_
      refine ne_cons q12 ?_
      refine ne_cons zD0 ?_
      refine ne_cons zD1 ?_
      refine ne_cons zD2 ?_
      refine ne_cons zZ2 ?_
      refine ne_cons zZ1 ?_
      exact hIr
    case eqB3 =>
      rw [List.map_cons, ← htl]
      congr 1
      exact (by decide +kernel : _ = varT 27).trans (told_num hnb (by decide))
  · unfold StopT
    rename_i _ Z1 _ _ Z2 _ _ D2 _ l3 _ _ hnb _ _ _ _ _ _ _ _ _ L5 _ m2 D3 _ n2 _ _ D1 _ n1 D0 _ n0 _ kF kN
    have hz : @Ne Nat D0 I ∧ @Ne Nat D1 I ∧ @Ne Nat D2 I ∧ @Ne Nat Z2 I ∧ @Ne Nat Z1 I ∧ @Ne Nat D3 I := by omega
    obtain ⟨zD0, zD1, zD2, zZ2, zZ1, zD3⟩ := hz
    refine UnrEnd.intro kF kN _ (by (repeat (refine sub1 ?_ ?_; focus k_mem)); intro p hp; (repeat (first | exact hp | apply List.Mem.tail))) ?offB4 ⟨.fn (.i 700) :: Ts, _, _ :: tolds, 0, D0, D3, (D0, _) :: (D1, _) :: (D2, _) :: (Z2, _) :: (Z1, _) :: rr, Tx, vT, nt, ob, kvb, rfl, rfl, rfl, rfl, rfl, rfl, rfl, .cons (.head _) (.tail _ (.head _)) (.fn (.tail _ (.tail _ (.head _))) (.tail _ (.tail _ (.tail _ (.head _)))) (.i (.tail _ (.tail _ (.tail _ (.tail _ (.head _))))))) (hch.mono fun p hp => (.tail _ (.tail _ (.tail _ (.tail _ (.tail _ hp)))))), .cons _ _ hdv, ?eqB4, List.forall_mem_cons.mpr ⟨.fi (by decide), hok⟩, by rw [List.length_cons, hlen], hvT, hob, hfb, hTok, by omega, off_cons (by simp only [NeAll, and_true]; omega) (off_cons (by simp only [NeAll, and_true]; omega) (off_cons (by simp only [NeAll, and_true]; omega) (off_cons (by simp only [NeAll, and_true]; omega) (off_cons (by simp only [NeAll, and_true]; omega) (hoff))))), by omega, rfl⟩
    case offB4 =>
      refine ne_cons zD3 ?_
      refine ne_cons q1 ?_
      refine ne_cons q2 ?_
      refine ne_cons q3 ?_
      refine ne_cons q4 ?_
      refine ne_cons q5 ?_
      refine ne_cons q6 ?_
      refine ne_cons q7 ?_
      refine ne_cons q8 ?_
      refine ne_cons q9 ?_
      refine ne_cons q10 ?_
      refine ne_cons q11 ?_
      refine ne_cons q12 ?_
      refine ne_cons zD0 ?_
      refine ne_cons zD1 ?_
      refine ne_cons zD2 ?_
      refine ne_cons zZ2 ?_
      refine ne_cons zZ1 ?_
      exact hIr
    case eqB4 =>
      rw [List.map_cons, ← htl]
      congr 1
      exact (by decide +kernel : _ = varT 700).trans (told_num hnb (by decide))
  · unfold StopT
    rename_i f9 tf9 hf9 hnl _ _ _ Z1 _ _ Z2 _ _ D2 _ l3 _ _ hnb hneg _ _ _ _ _ _ _ _ _ _ _ L5 _ m2 D3 _ n2 _ _ D1 _ n1 D0 _ n0 _ kF kN
    have hz : @Ne Nat D0 I ∧ @Ne Nat D1 I ∧ @Ne Nat D2 I ∧ @Ne Nat Z2 I ∧ @Ne Nat Z1 I ∧ @Ne Nat D3 I := by omega
    obtain ⟨zD0, zD1, zD2, zZ2, zZ1, zD3⟩ := hz
    refine UnrEnd.intro kF kN _ (by (repeat (refine sub1 ?_ ?_; focus k_mem)); intro p hp; (repeat (first | exact hp | apply List.Mem.tail))) ?offC0 ⟨.fn (.i f9) :: Ts, _, _ :: tolds, 0, D0, D3, (D0, _) :: (D1, _) :: (D2, _) :: (Z2, _) :: (Z1, _) :: rr, Tx, vT, nt, ob, kvb, rfl, rfl, rfl, rfl, rfl, rfl, rfl, .cons (.head _) (.tail _ (.head _)) (.fn (.tail _ (.tail _ (.head _))) (.tail _ (.tail _ (.tail _ (.head _)))) (.i (.tail _ (.tail _ (.tail _ (.tail _ (.head _))))))) (hch.mono fun p hp => (.tail _ (.tail _ (.tail _ (.tail _ (.tail _ hp)))))), .cons _ _ hdv, ?eqC0, List.forall_mem_cons.mpr ⟨.fi hf9, hok⟩, by rw [List.length_cons, hlen], hvT, hob, hfb, hTok, by omega, off_cons (by simp only [NeAll, and_true]; omega) (off_cons (by simp only [NeAll, and_true]; omega) (off_cons (by simp only [NeAll, and_true]; omega) (off_cons (by simp only [NeAll, and_true]; omega) (off_cons (by simp only [NeAll, and_true]; omega) (hoff))))), by omega, rfl⟩
    case offC0 =>
      refine ne_cons zD3 ?_
      refine ne_cons q1 ?_
      refine ne_cons q2 ?_
      refine ne_cons q3 ?_
      refine ne_cons q4 ?_
      refine ne_cons q5 ?_
      refine ne_cons q6 ?_
      refine ne_cons q7 ?_
      refine ne_cons q8 ?_
      refine ne_cons q9 ?_
      refine ne_cons q10 ?_
      refine ne_cons q11 ?_
      refine ne_cons q12 ?_
      refine ne_cons zD0 ?_
      refine ne_cons zD1 ?_
      refine ne_cons zD2 ?_
      refine ne_cons zZ2 ?_
      refine ne_cons zZ1 ?_
      exact hIr
    case eqC0 =>
      rw [List.map_cons, ← htl]
      congr 1
      exact told_neg (fun e => hneg e.2)
  · unfold StopT
    rename_i f9 tf9 hf9 hnl _ _ _ Z1 _ _ Z2 _ _ D2 _ l3 _ _ hnb _ _ _ _ _ _ _ _ _ _ L5 _ m2 D3 _ n2 _ _ D1 _ n1 D0 _ n0 _ kF kN
    have hz : @Ne Nat D0 I ∧ @Ne Nat D1 I ∧ @Ne Nat D2 I ∧ @Ne Nat Z2 I ∧ @Ne Nat Z1 I ∧ @Ne Nat D3 I := by omega
    obtain ⟨zD0, zD1, zD2, zZ2, zZ1, zD3⟩ := hz
    refine UnrEnd.intro kF kN _ (by (repeat (refine sub1 ?_ ?_; focus k_mem)); intro p hp; (repeat (first | exact hp | apply List.Mem.tail))) ?offC1 ⟨.fn (.i f9) :: Ts, _, _ :: tolds, 0, D0, D3, (D0, _) :: (D1, _) :: (D2, _) :: (Z2, _) :: (Z1, _) :: rr, Tx, vT, nt, ob, kvb, rfl, rfl, rfl, rfl, rfl, rfl, rfl, .cons (.head _) (.tail _ (.head _)) (.fn (.tail _ (.tail _ (.head _))) (.tail _ (.tail _ (.tail _ (.head _)))) (.i (.tail _ (.tail _ (.tail _ (.tail _ (.head _))))))) (hch.mono fun p hp => (.tail _ (.tail _ (.tail _ (.tail _ (.tail _ hp)))))), .cons _ _ hdv, ?eqC1, List.forall_mem_cons.mpr ⟨.fi hf9, hok⟩, by rw [List.length_cons, hlen], hvT, hob, hfb, hTok, by omega, off_cons (by simp only [NeAll, and_true]; omega) (off_cons (by simp only [NeAll, and_true]; omega) (off_cons (by simp only [NeAll, and_true]; omega) (off_cons (by simp only [NeAll, and_true]; omega) (off_cons (by simp only [NeAll, and_true]; omega) (hoff))))), by omega, rfl⟩
    case offC1 =>
      refine ne_cons zD3 ?_
      refine ne_cons q1 ?_
      refine ne_cons q2 ?_
      refine ne_cons q3 ?_
      refine ne_cons q4 ?_
      refine ne_cons q5 ?_
      refine ne_cons q6 ?_
      refine ne_cons q7 ?_
      refine ne_cons q8 ?_
      refine ne_cons q9 ?_
      refine ne_cons q10 ?_
      refine ne_cons q11 ?_
      refine ne_cons q12 ?_
      refine ne_cons zD0 ?_
      refine ne_cons zD1 ?_
      refine ne_cons zD2 ?_
      refine ne_cons zZ2 ?_
      refine ne_cons zZ1 ?_
      exact hIr
    case eqC1 =>
      rw [List.map_cons, ← htl]
      congr 1
      exact told_neg (fun e => by rw [hnb] at e; exact Bool.false_ne_true e.1)
  · unfold StopT
    rename_i i9 ti9 T9 vs9 nt9 on9 kvs9 hA9 hs9 hd9 hf9 Z1 _ _ Z2 _ _ D2 _ l3 _ _ hnb _ _ _ _ _ _ _ _ _ L5 _ m2 D3 _ n2 _ _ D1 _ n1 D0 _ n0 _ kF kN
    obtain ⟨hT1, hT2, hT3, hT4, hT5⟩ := tok_atom hTok (by decide +kernel) hA9
    have hi9 : i9 < 100000 := by have := (List.getElem?_eq_some_iff.mp hT5).1; omega
    have hok9 : ∀ U ∈ Ts, OkI T9 U := fun U hU => (hok U hU).mono (atomTo_mono hA9)
    have hz : @Ne Nat D0 I ∧ @Ne Nat D1 I ∧ @Ne Nat D2 I ∧ @Ne Nat Z2 I ∧ @Ne Nat Z1 I ∧ @Ne Nat D3 I := by omega
    obtain ⟨zD0, zD1, zD2, zZ2, zZ1, zD3⟩ := hz
    refine UnrEnd.intro kF kN _ (by (repeat (refine sub1 ?_ ?_; focus k_mem)); intro p hp; (repeat (first | exact hp | apply List.Mem.tail))) ?offD0 ⟨.fn (.a i9) :: Ts, _, _ :: tolds, 0, D0, D3, (D0, _) :: (D1, _) :: (D2, _) :: (Z2, _) :: (Z1, _) :: rr, T9, vs9, nt9, on9, kvs9, rfl, rfl, rfl, rfl, rfl, rfl, rfl, .cons (.head _) (.tail _ (.head _)) (.fn (.tail _ (.tail _ (.head _))) (.tail _ (.tail _ (.tail _ (.head _)))) (.a (.tail _ (.tail _ (.tail _ (.tail _ (.head _))))))) (hch.mono fun p hp => (.tail _ (.tail _ (.tail _ (.tail _ (.tail _ hp)))))), .cons _ _ hdv, ?eqD0, List.forall_mem_cons.mpr ⟨.fa hT4 hi9 hT5, hok9⟩, by rw [List.length_cons, hlen], hs9, hd9, hf9, hT1, by omega, off_cons (by simp only [NeAll, and_true]; omega) (off_cons (by simp only [NeAll, and_true]; omega) (off_cons (by simp only [NeAll, and_true]; omega) (off_cons (by simp only [NeAll, and_true]; omega) (off_cons (by simp only [NeAll, and_true]; omega) (hoff))))), by omega, rfl⟩
    case offD0 =>
      refine ne_cons zD3 ?_
      refine ne_cons q1 ?_
      refine ne_cons q2 ?_
      refine ne_cons q3 ?_
      refine ne_cons q4 ?_
      refine ne_cons q5 ?_
      refine ne_cons q6 ?_
      refine ne_cons q7 ?_
      refine ne_cons q8 ?_
      refine ne_cons q9 ?_
      refine ne_cons q10 ?_
      refine ne_cons q11 ?_
      refine ne_cons q12 ?_
      refine ne_cons zD0 ?_
      refine ne_cons zD1 ?_
      refine ne_cons zD2 ?_
      refine ne_cons zZ2 ?_
      refine ne_cons zZ1 ?_
      exact hIr
    case eqD0 =>
      rw [List.map_cons, ← htl]
      congr 1
  · unfold StopT
    rename_i i9 ti9 T9 vs9 nt9 on9 kvs9 hA9 hs9 hd9 hf9 Z1 _ _ Z2 _ _ D2 _ l3 _ _ hnb _ _ _ _ _ _ _ _ L5 _ m2 D3 _ n2 _ _ D1 _ n1 D0 _ n0 _ kF kN
    obtain ⟨hT1, hT2, hT3, hT4, hT5⟩ := tok_atom hTok (by decide +kernel) hA9
    have hi9 : i9 < 100000 := by have := (List.getElem?_eq_some_iff.mp hT5).1; omega
    have hok9 : ∀ U ∈ Ts, OkI T9 U := fun U hU => (hok U hU).mono (atomTo_mono hA9)
    have hz : @Ne Nat D0 I ∧ @Ne Nat D1 I ∧ @Ne Nat D2 I ∧ @Ne Nat Z2 I ∧ @Ne Nat Z1 I ∧ @Ne Nat D3 I := by omega
    obtain ⟨zD0, zD1, zD2, zZ2, zZ1, zD3⟩ := hz
    refine UnrEnd.intro kF kN _ (by (repeat (refine sub1 ?_ ?_; focus k_mem)); intro p hp; (repeat (first | exact hp | apply List.Mem.tail))) ?offD1 ⟨.fn (.a i9) :: Ts, _, _ :: tolds, 0, D0, D3, (D0, _) :: (D1, _) :: (D2, _) :: (Z2, _) :: (Z1, _) :: rr, T9, vs9, nt9, on9, kvs9, rfl, rfl, rfl, rfl, rfl, rfl, rfl, .cons (.head _) (.tail _ (.head _)) (.fn (.tail _ (.tail _ (.head _))) (.tail _ (.tail _ (.tail _ (.head _)))) (.a (.tail _ (.tail _ (.tail _ (.tail _ (.head _))))))) (hch.mono fun p hp => (.tail _ (.tail _ (.tail _ (.tail _ (.tail _ hp)))))), .cons _ _ hdv, ?eqD1, List.forall_mem_cons.mpr ⟨.fa hT4 hi9 hT5, hok9⟩, by rw [List.length_cons, hlen], hs9, hd9, hf9, hT1, by omega, off_cons (by simp only [NeAll, and_true]; omega) (off_cons (by simp only [NeAll, and_true]; omega) (off_cons (by simp only [NeAll, and_true]; omega) (off_cons (by simp only [NeAll, and_true]; omega) (off_cons (by simp only [NeAll, and_true]; omega) (hoff))))), by omega, rfl⟩
    case offD1 =>
      refine ne_cons zD3 ?_
      refine ne_cons q1 ?_
      refine ne_cons q2 ?_
      refine ne_cons q3 ?_
      refine ne_cons q4 ?_
      refine ne_cons q5 ?_
      refine ne_cons q6 ?_
      refine ne_cons q7 ?_
      refine ne_cons q8 ?_
      refine ne_cons q9 ?_
      refine ne_cons q10 ?_
      refine ne_cons q11 ?_
      refine ne_cons q12 ?_
      refine ne_cons zD0 ?_
      refine ne_cons zD1 ?_
      refine ne_cons zD2 ?_
      refine ne_cons zZ2 ?_
      refine ne_cons zZ1 ?_
      exact hIr
    case eqD1 =>
      rw [List.map_cons, ← htl]
      congr 1
end Mine
end
section
-- part E13d
open PySem PySem.W PySem.Calls PyProof.Rows PyProof.V PySem.Spec
namespace Mine
local macro_rules | `(tactic| krn_off) => `(tactic| first | with_reducible assumption | exact allLt_of (by with_reducible assumption) | exact And.right (by with_reducible assumption) | exact And.right (And.right (by with_reducible assumption)) | exact And.right (And.right (And.right (by with_reducible assumption))) | exact And.right (And.right (And.right (And.right (by with_reducible assumption)))) | exact And.right (And.right (And.right (And.right (And.right (by with_reducible assumption))))) | exact And.right (And.right (And.right (And.right (And.right (And.right (by with_reducible assumption)))))) | exact And.right (And.right (And.right (And.right (And.right (And.right (And.right (by with_reducible assumption))))))) | exact And.right (And.right (And.right (And.right (And.right (And.right (And.right (And.right (by with_reducible assumption)))))))) | exact And.right (And.right (And.right (And.right (And.right (And.right (And.right (And.right (And.right (by with_reducible assumption))))))))) | exact And.right (And.right (And.right (And.right (And.right (And.right (And.right (And.right (And.right (And.right (by with_reducible assumption)))))))))) | exact And.right (And.right (And.right (And.right (And.right (And.right (And.right (And.right (And.right (And.right (And.right (by with_reducible assumption))))))))))) | exact And.right (And.right (And.right (And.right (And.right (And.right (And.right (And.right (And.right (And.right (And.right (And.right (by with_reducible assumption)))))))))))) | exact And.right (And.right (And.right (And.right (And.right (And.right (And.right (And.right (And.right (And.right (And.right (And.right (And.right (by with_reducible assumption))))))))))))) | exact And.right (And.right (And.right (And.right (And.right (And.right (And.right (And.right (And.right (And.right (And.right (And.right (And.right (And.right (by with_reducible assumption)))))))))))))) | exact And.right (And.right (And.right (And.right (And.right (And.right (And.right (And.right (And.right (And.right (And.right (And.right (And.right (And.right (And.right (by with_reducible assumption))))))))))))))) | exact And.right (And.right (And.right (And.right (And.right (And.right (And.right (And.right (And.right (And.right (And.right (And.right (And.right (And.right (And.right (And.right (by with_reducible assumption)))))))))))))))) | exact And.right (And.right (And.right (And.right (And.right (And.right (And.right (And.right (And.right (And.right (And.right (And.right (And.right (And.right (And.right (And.right (And.right (by with_reducible assumption))))))))))))))))) | exact And.right (And.right (And.right (And.right (And.right (And.right (And.right (And.right (And.right (And.right (And.right (And.right (And.right (And.right (And.right (And.right (And.right (And.right (by with_reducible assumption)))))))))))))))))) | exact And.right (And.right (And.right (And.right (And.right (And.right (And.right (And.right (And.right (And.right (And.right (And.right (And.right (And.right (And.right (And.right (And.right (And.right (And.right (by with_reducible assumption))))))))))))))))))) | exact And.right (And.right (And.right (And.right (And.right (And.right (And.right (And.right (And.right (And.right (And.right (And.right (And.right (And.right (And.right (And.right (And.right (And.right (And.right (And.right (by with_reducible assumption)))))))))))))))))))) | exact And.right (And.right (And.right (And.right (And.right (And.right (And.right (And.right (And.right (And.right (And.right (And.right (And.right (And.right (And.right (And.right (And.right (And.right (And.right (And.right (And.right (by with_reducible assumption))))))))))))))))))))) | exact And.right (And.right (And.right (And.right (And.right (And.right (And.right (And.right (And.right (And.right (And.right (And.right (And.right (And.right (And.right (And.right (And.right (And.right (And.right (And.right (And.right (And.right (by with_reducible assumption)))))))))))))))))))))) | exact And.right (And.right (And.right (And.right (And.right (And.right (And.right (And.right (And.right (And.right (And.right (And.right (And.right (And.right (And.right (And.right (And.right (And.right (And.right (And.right (And.right (And.right (And.right (by with_reducible assumption))))))))))))))))))))))) | exact And.right (And.right (And.right (And.right (And.right (And.right (And.right (And.right (And.right (And.right (And.right (And.right (And.right (And.right (And.right (And.right (And.right (And.right (And.right (And.right (And.right (And.right (And.right (And.right (by with_reducible assumption)))))))))))))))))))))))) | exact And.right (And.right (And.right (And.right (And.right (And.right (And.right (And.right (And.right (And.right (And.right (And.right (And.right (And.right (And.right (And.right (And.right (And.right (And.right (And.right (And.right (And.right (And.right (And.right (And.right (by with_reducible assumption))))))))))))))))))))))))) | fail "krn_off")
local macro_rules | `(tactic| k_all) => `(tactic| ((fail_if_success (refine List.forall_mem_cons.mpr ?_)); first | assumption | exact allLt_ne (by krn_off)))
local macro_rules | `(tactic| size_fits) => `(tactic| (simp only [List.size_toArray, PySem.sizeLine_eq]; omega))
local macro_rules | `(tactic| kbt_split) => `(tactic| first | exact Rm.head | (apply Rm.tail; kbt_split) | fail "kbt_split")
local macro_rules | `(tactic| tlg_ne) => `(tactic| first | exact off_nil | exact off_nil2 | (refine off_cons (by simp only [NeAll, and_true]; omega) ?_; tlg_ne) | exact off_sub (by assumption) (by first | (simp; done) | fail "tlg") | (refine off_lt (by krn_off) ?_; tlg_ne))
local macro_rules | `(tactic| fold_lay) => `(tactic| (refine' code_def ?k1 ?k2 ?k3 ?k4 ?k5 ?kA ?kF ?kK ?k6 ?k7 ?k8 ?k9 ?kB ?_ ?c2 ?c3 ?c4 ?c5; (case kA => exact rfl); (case kF => exact rfl); (case kK => first | exact rfl | assumption); (case k1 => k_asm); (case k2 => k_asm); (case k3 => k_asm); (case k4 => k_asm); (case k5 => k_asm); (case k6 => k_is); (case k7 => k_is); (case k8 => ktr_room); (case k9 => first | exact BindsTo.of_eq rfl | exact binds_K (by k_in) rfl (by k_is) rfl rfl rfl); (case c5 => decide); (case kB => exact locs rfl); (case c2 => exact rfl); (case c3 => exact rfl); (case c4 => exact rfl); k_whole; intro g' L' h' FG' F' N' B' X' T'; (try dsimp only); (try k_lift B'); (try k_fold)))
local macro_rules | `(tactic| walk_at "call ref") => `(tactic| (k_here; k_dflt (first
  | (refine' call_cls ?k1 ?k2 ?k3 ?k4 ?k5 ?k6 ?_; (case k1 => k_asm); (case k2 => k_asm); (case k3 => k_asm); (case k4 => k_is); (case k5 => k_is); (case k6 => k_is); k_whole; intro x' d' h' F' N' l1 l2; (try k_lt l1); (try k_lt2 l2); (try k_sweep); fold_lay)
  | (refine' call_meth ?k1 ?k2 ?_; (case k1 => k_asm); (case k2 => k_mem); k_whole; fold_lay)
  | (refine wpAny_call ?_; fold_lay))))
local macro_rules | `(tactic| ktr_units) => `(tactic| ((simp only [units_in1, units_deeper, Around.mark_units, units_make, units_ktr, cLine_is] at *); omega))
local macro_rules | `(tactic| ksw_less) => `(tactic| first | with_reducible exact sub3 | with_reducible assumption | (refine sub1 (by k_mem) ?_; ksw_less) | (refine sub2 ?_; ksw_less))
local macro_rules | `(tactic| k_mem) => `(tactic| ((fail_if_success (apply List.Mem.tail)); assumption))
theorem off_two {x dx : Nat} {r : Led} (h : AllLt dx r) (h2 : dx < x) : OwnOff r [x, dx] := fun p hp b hb => by
  have h3 : @LT.lt Nat _ p.1 dx := allLt_mem h (a := p.1) (o := p.2) hp
  simp only [List.mem_cons, List.not_mem_nil, or_false] at hb
  rcases hb with rfl | rfl
  · exact Nat.ne_of_lt (Nat.lt_trans h3 h2)
  · exact Nat.ne_of_lt h3
theorem cat_len : ∀ l : List Str, (cat l).length = (l.map (·.length)).sum
  | [] => by decide +kernel
  | t :: r => by
    show (t ++ cat r).length = t.length + (r.map (·.length)).sum
    rw [Str.length_append, cat_len r]
theorem told_len {nb : Bool} {c : Tbl} {Tx : List Str} {T : Term} (hs : Short (vals c)) (hl : Long (vals c)) (h : OkI Tx T) : (told nb c T).length ≤ 20 := by
  cases h with
  | v h0 h3 => exact (name_len hs hl h0 h3).2
  | @fi f h =>
    show (if nb = true ∧ 0 ≤ f then varT f else Str.ofString "'$VAR'(" ++ numT f ++ Str.ofString ")").length ≤ 20
    simp only [List.mem_cons, List.not_mem_nil, or_false] at h
    split <;> rcases h with rfl | rfl | rfl | rfl | rfl | rfl <;> decide +kernel
  | fa _ _ _ => show (Str.ofString "'$VAR'(k)").length ≤ 20; decide +kernel
theorem pairs_len : ∀ l : List Str, (∀ u ∈ l, u.length ≤ 20) → ((l.flatMap fun u => [Str.ofString ",", u]).map (·.length)).sum ≤ 21 * l.length
  | [], _ => Nat.le_refl _
  | t :: l, h => by
    have h1 := h t (.head _)
    have h2 := pairs_len l fun s hs => h s (.tail _ hs)
    have h3 : (Str.ofString ",").length = 1 := by decide +kernel
    simp only [List.flatMap_cons, List.cons_append, List.nil_append, List.map_cons, List.sum_cons, List.length_cons, h3]
    omega
theorem join_len {t : Str} {l : List Str} (h : ∀ u ∈ t :: l, u.length ≤ 20) : (Txt.join (Str.ofString ",") (t :: l)).length ≤ 20 + 21 * l.length := by
  rw [join_comma, Str.length_append, cat_len]
  have h1 := h t (.head _)
  have h2 := pairs_len l fun u hu => h u (.tail _ hu)
  omega
theorem tables_long {c : Tbl} (h : c ∈ Tables) : Long (vals c) := by
  unfold Tables at h
  simp only [List.mem_cons, List.not_mem_nil, or_false] at h
  unfold Long
  rcases h with rfl | rfl | rfl | rfl | rfl <;> decide +kernel
theorem toks_plus {prog : Program} {w : World} {A : Around} {E : Value → Shared → Prop} {α : Type} {c : Sem α} {Q : α → Shared → Prop} {h : Heap} {g : Array GenState} {dr : Drawn} {os : OsState} {x : Nat} (hh : ∀ tk, wpAny (model prog w) A c Q E ⟨h, g, dr, tk, os⟩) : wpAny (model prog w) A c Q E ⟨h, g, dr, x + 1, os⟩ := hh (x + 1)
theorem toks_plus2 {prog : Program} {w : World} {A : Around} {E : Value → Shared → Prop} {α : Type} {c : Sem α} {Q : α → Shared → Prop} {h : Heap} {g : Array GenState} {dr : Drawn} {os : OsState} {x y : Nat} (hh : ∀ tk, wpAny (model prog w) A c Q E ⟨h, g, dr, tk, os⟩) : wpAny (model prog w) A c Q E ⟨h, g, dr, x + y, os⟩ := hh (x + y)
local macro_rules | `(tactic| walk_at "execs cons") => `(tactic| (k_here; (with_reducible first | refine toks_plus (fun tk => ?_) | refine toks_plus2 (fun tk => ?_))))
local macro_rules | `(tactic| walk_at "call ref") => `(tactic| (k_here; (with_unfolding_all show wpAny _ _ (call (Value.ref 472) _) _ _ _); refine stopper2 ?_))
local macro_rules | `(tactic| walk_at "call ref") => `(tactic| (k_here; (with_unfolding_all show wpAny _ _ (call (Value.ref 357) _) _ _ _); refine stopper2 ?_))
local macro_rules | `(tactic| walk_at "call builtin:str.join") => `(tactic| (k_here; (with_reducible show wpAny _ _ (call (Value.builtin "str.join") [Value.str _ _, Value.ref _]) _ _ _); k_dflt (refine join_listW (News.isList (by k_asm) (by k_mem)) (by assumption) (by decide +kernel) (by assumption) ?_); intro t9 k9))
set_option maxHeartbeats 1000000 in
theorem done_law : S2.1.2 := by
  intro z58
  set_option tactic.hygienic false in intros
  have hJ := a
  have F := a_1
  have N := a_2
  clear a a_1 a_2
  obtain ⟨Ts, dv, tolds, cnt, a, du, rr, Tx, vT, nt, ob, kvb, hm1, hm2, hm3, hm4, hm5, hm6, hm7, hch, hdv, htl, hok, hlen, hvT, hob, hfb, hTok, hTl, hoff, hdu, hnx⟩ := hJ
  rw [name_form hm1] at F
  rw [name_form hm2] at F
  rw [name_form hm3] at F
  rw [name_form hm4] at F
  rw [name_form hm5] at F
  rw [name_form hm6] at F
  rw [name_form hm7] at F
  dsimp only at F
  subst hnx
  clear zz_27 zz_34 zz_12
  k_steps
  obtain ⟨hc1, hc2, hcl⟩ := tables_nodup hcT
  ((first | unfold Stop | unfold Stop2); k_dflt (refine' does_use ?Bx1 ?Fx1 ?Xx1 ?Nx1 ?Tx1 ?hkx1 (init_spec ?a1x1 ?a2x1 ?a3x1 ?a4x1 ?a5x1 ?a6x1) ?pkx1 ?hdx1 ?hux1 ?_; (case Bx1 => k_asm); (case Fx1 => k_asm); (case Xx1 => k_asm); (case Nx1 => k_asm); (case Tx1 => k_asm); (case hkx1 => first | exact rfl | assumption); (case pkx1 => (refine' Pk.cons ?q1x1 Pk.nil; (case q1x1 => kbt_split))); (case a1x1 => exact hdn); (case a2x1 => exact hfn); (case a3x1 => exact zz_63); (case a4x1 => exact hc1); (case a5x1 => exact hc2); (case a6x1 => exact hcl); (case hdx1 => ktr_room); (case hux1 => ktr_units)); intro r9 n9 hz9 tz9 p9 F9 N9; (obtain ⟨x, dx, an, at', lo, lw, on2, ot, kn2, kt, ta, h1, h2, h3, h4, h5, h6, h7, h8, h9, h10, h11, k1, k2, k3, k4, k5, k6, k7, k8, k9, k10, k11, hr9, hdn2, hfn2, hln2, hdt, hft, hlt, hal, hord, hled9⟩ := p9); (subst hr9); (subst hled9); (try dsimp only))
  k_steps
  obtain ⟨p1, p2, p3, p4, p5, p6, p7, p8, p9, p10, p11, p12, p13, hrr⟩ := hal
  obtain ⟨T0, Ts0, hTs⟩ : ∃ T0 Ts0, Ts = T0 :: Ts0 := by
    cases Ts with
    | nil => rw [List.length_nil] at hlen; omega
    | cons T0 Ts0 => exact ⟨T0, Ts0, rfl⟩
  subst hTs
  have hsh := tables_short hcT
  have hso9 : @LT.lt Nat _ xs dx ∧ @LT.lt Nat _ ds dx ∧ @LT.lt Nat _ bt dx ∧ @LT.lt Nat _ bf dx ∧ @LT.lt Nat _ k17 dx ∧ @LT.lt Nat _ y dx ∧ @LT.lt Nat _ dy dx ∧ @LT.lt Nat _ bp dx ∧ @LT.lt Nat _ bq dx ∧ @LT.lt Nat _ dx x ∧ @LT.lt Nat _ x an ∧ @LT.lt Nat _ an at' := ⟨p7, p8, p9, p11, p12, p3, p4, p5, p6, hord.1, hord.2.1, hord.2.2⟩
  have hlg := tables_long hcT
  ((first | unfold Stop | unfold Stop2); k_dflt (refine' does_use ?Bx2 ?Fx2 ?Xx2 ?Nx2 ?Tx2 ?hkx2 (text_spec (l := 0) ?a1x2 ?a2x2 ?a3x2 ?a4x2 ?a5x2 ?a6x2 ?a7x2 ?a8x2 ?a9x2 ?a10x2 ?a11x2 ?a12x2 ?a13x2 ?a14x2 ?a15x2 ?a16x2 ?a17x2 ?a18x2 ?a19x2 ?a20x2 ?a21x2) ?pkx2 ?hdx2 ?hux2 ?_; (case Bx2 => k_asm); (case Fx2 => k_asm); (case Xx2 => k_asm); (case Nx2 => k_asm); (case Tx2 => k_asm); (case hkx2 => first | exact rfl | assumption); (case pkx2 => (refine' Pk.cons ?q1x2 (Pk.cons ?q2x2 (Pk.cons ?q3x2 (Pk.cons ?q4x2 (Pk.cons ?q5x2 (Pk.cons ?q6x2 (Pk.cons ?q7x2 (Pk.cons ?q8x2 (Pk.cons ?q9x2 (Pk.cons ?q10x2 (Pk.cons ?q11x2 (Pk.cons ?q12x2 (Pk.cons ?q13x2 Pk.nil)))))))))))); (case q1x2 => kbt_split); (case q2x2 => kbt_split); (case q3x2 => kbt_split); (case q4x2 => kbt_split); (case q5x2 => kbt_split); (case q6x2 => kbt_split); (case q7x2 => kbt_split); (case q8x2 => kbt_split); (case q9x2 => kbt_split); (case q10x2 => kbt_split); (case q11x2 => kbt_split); (case q12x2 => kbt_split); (case q13x2 => kbt_split))); (case a1x2 => exact hsh); (case a2x2 => exact hlg); (case a3x2 => exact hdn2); (case a4x2 => exact hfn2); (case a5x2 => exact hln2); (case a6x2 => exact hdt); (case a7x2 => exact hft); (case a8x2 => exact hlt); (case a9x2 => exact hvT); (case a10x2 => exact hTok.1); (case a11x2 => exact hF17); (case a12x2 => exact hop); (case a13x2 => exact h26); (case a14x2 => exact hoq); (case a15x2 => exact hbp); (case a16x2 => exact hbq); (case a17x2 => exact hch.mono (fun p hp => by (repeat (first | exact hp | apply List.Mem.tail)))); (case a18x2 => exact fun U hU => (hok U hU).okT); (case a19x2 => (rw [List.length_cons] at hlen; omega)); (case a20x2 => exact off_two ⟨p1, p2, p10, p13, hrr⟩ hord.1); (case a21x2 => exact hso9); (case hdx2 => ktr_room); (case hux2 => ktr_units)); intro r9 n9 hz9 tz9 p9 F9 N9; (obtain ⟨tk5, hr9, hled9⟩ := p9); (subst hr9); (subst hled9); (try dsimp only))
  have htw : ∀ u ∈ tolds, u.length ≤ 20 := fun u hu => by
    rw [htl] at hu
    obtain ⟨U, hU, rfl⟩ := List.mem_map.mp hu
    exact told_len hsh hlg (hok U hU)
  have htn : tolds.length = Ts0.length + 1 := by rw [htl, List.length_map, List.length_cons]
  rw [List.length_cons] at hlen
  have hjw : (tolds.map (·.length)).sum + tolds.length ≤ 1048576 := by
    have := weight htw
    omega
  have hjl : (Txt.join (Str.ofString ",") tolds).length ≤ 2000 := by
    rw [htl] at htw ⊢
    have h := join_len (t := told nb c T0) (l := Ts0.map (told nb c)) htw
    rw [List.length_map] at h
    exact Nat.le_trans h (by omega)
  rw [show Txt.join (Str.ofString "") (rend nb c (.lst (T0 :: Ts0))) = Str.ofString "[" ++ Txt.join (Str.ofString ",") tolds ++ Str.ofString "]" from by rw [htl]; exact law_eq hok]
  k_steps
end Mine
end
theorem PySem.Challenge.cw_rr0025_01_holds : PySem.Challenge.rw_rr0025_01.Holds := by
  exact Mine.S1.2 ⟨Mine.S2.2 ⟨Mine.turn_law⟩ ⟨Mine.done_law⟩⟩
