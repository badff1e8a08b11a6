import PyProof.Rows.All
import Wide.All
import OpenK.AllK
import Wide.FinOn
import PySem.Challenge.RW_tk0095_01
set_option Elab.async false
set_option maxRecDepth 100000
set_option compiler.extract_closed false
set_option linter.all false
namespace Mine
open PySem PySem.W PyProof.Rows

/- Room -/
section
theorem room_of {dp a b L : Nat} (h : dp + b < L) (e : Nat.ble a b = true) : dp + a < L := Nat.lt_of_le_of_lt (Nat.add_le_add_left (Nat.le_of_ble_eq_true e) dp) h
theorem room_of1 {dp k a b L : Nat} (h : dp + b < L) (e : Nat.ble (k + a) b = true) : dp + k + a < L := by rw [Nat.add_assoc]; exact room_of h e
theorem room_of2 {dp k j a b L : Nat} (h : dp + b < L) (e : Nat.ble (k + (j + a)) b = true) : dp + k + j + a < L := by rw [Nat.add_assoc, Nat.add_assoc]; exact room_of h e
theorem room_of0 {dp b L : Nat} (h : dp + b < L) : dp < L := Nat.lt_of_le_of_lt (Nat.le_add_right dp b) h
end
section
local macro_rules | `(tactic| k_room) => `(tactic| ktr_room)
local macro_rules | `(tactic| k_units) => `(tactic| ktr_units)
local macro_rules | `(tactic| ktr_room) => `(tactic| first | exact room_of (by with_reducible assumption) rfl | exact room_of1 (by with_reducible assumption) rfl | exact room_of2 (by with_reducible assumption) rfl | ((try simp only [depth_deeper]); (try dsimp only [ktrTop]); first | exact room_of0 (by with_reducible assumption) | exact room_of (by with_reducible assumption) rfl | exact room_of1 (by with_reducible assumption) rfl | exact room_of2 (by with_reducible assumption) rfl))
local macro_rules | `(tactic| ktr_units) => `(tactic| first | exact room_of (by with_reducible assumption) rfl | exact room_of1 (by with_reducible assumption) rfl | exact room_of2 (by with_reducible assumption) rfl)

/- Hd -/
section
set_option maxHeartbeats 8000000
local macro_rules | `(tactic| o_head $_) => `(tactic| assumption)
theorem hd (h : PySem.Challenge.rw_tk0095_01.row.Holds) : PySem.Challenge.rw_tk0095_01.row.Holds := by
  k_head
end
theorem fill : PySem.Challenge.rw_tk0095_01 = PySem.Challenge.rw_tk0095_01 ∧ hd.heap_1 = hd.heap_1 := by
  k_fill
  exact ⟨rfl, rfl⟩

/- Head -/
section
set_option maxHeartbeats 8000000
def view : Program := match PySem.Challenge.rw_tk0095_01.row.toRowW.prog.main.body with
  | [a0, _, a2, a3, a4, a5, a6, a7, a8, a9, _, a11, a12, a13, a14, a15, a16, a17, a18, a19, a20, a21, _, a23, a24, a25, a26] =>
    { PySem.Challenge.rw_tk0095_01.row.toRowW.prog with main := { PySem.Challenge.rw_tk0095_01.row.toRowW.prog.main with body := [a0, a2, a3, a4, a5, a6, a7, a8, a9, a11, a12, a13, a14, a15, a16, a17, a18, a19, a20, a21, a23, a24, a25, a26] } }
  | _ => PySem.Challenge.rw_tk0095_01.row.toRowW.prog
def adrs : List Nat := [2, 3, 15, 17, 18, 20, 21, 22, 24, 25, 27, 28, 29, 31, 32, 34, 35, 43, 45, 46, 48, 49, 50, 52, 53, 55,
                  56, 57, 59, 60, 62, 63, 64, 66, 67, 69, 70, 71, 73, 74, 76, 77, 78, 80, 81, 83, 84, 85, 87, 88, 90,
                  91, 92, 94, 95, 97, 98, 99, 101, 102, 104, 105, 106, 108, 109, 111, 112, 113, 115, 116, 118, 119, 120,
                  121, 122, 123, 124, 127, 130, 131, 139, 141, 142, 144, 145, 146, 148, 149, 151, 152, 153, 155, 156,
                  158, 159, 160, 162, 163, 165, 166, 167, 169, 170, 172, 173, 174, 176, 177, 179, 180, 181, 183, 184,
                  186, 187, 188, 189, 190, 191, 192, 202, 204, 205, 207, 208, 209, 211, 212, 214, 215, 216, 218, 219,
                  221, 222, 223, 224, 225, 226, 227, 230, 232, 233, 235, 236, 237, 239, 240, 242, 243, 244, 246, 247,
                  249, 250, 251, 254, 255]
theorem adrs_are (P : Params) : adrs = (hd.heap_1 P).map (·.1) := by kernel_rfl
theorem said : PySem.Challenge.rw_tk0095_01.wellSaid = true := by decide +kernel
theorem left : LeftO PySem.Challenge.rw_tk0095_01.row.prog view [] (fun s => xlAt view [] s && recOk (RowW.records PySem.Challenge.rw_tk0095_01.row.toRowW) s) (Hook.obs (kHook hd.heap_1 adrs adrs_are)) (Hook.val (kHook hd.heap_1 adrs adrs_are)) 3422 := by
  intro w
  kernel_rfl
theorem promised : PySem.Challenge.rw_tk0095_01.row.toRowW.promised := by w_witness2
theorem head_ok : (chainsOk view && opensWell PySem.Challenge.rw_tk0095_01.row.prog && (frees PySem.Challenge.rw_tk0095_01.row.toRowW && PySem.Challenge.rw_tk0095_01.row.within.isEmpty)) = true := by decide +kernel
theorem headed {d : DefRec} {kwd : List (Str × Expr)} (hdef : defOf view PySem.Challenge.rw_tk0095_01.row.name = some (d, kwd)) (hp : PySem.Challenge.rw_tk0095_01.row.prog.theDef PySem.Challenge.rw_tk0095_01.row.name = some (d.params, d.body, d.scope)) (hk : kwWritten? d.params.kwonlyargs d.params.kw_defaults = some kwd)
    (call : WalkO view [] (XL view []) (Hook.says (kHook hd.heap_1 adrs adrs_are)) PySem.Challenge.rw_tk0095_01.row.toRowW d kwd fun f vs => PySem.call f vs) : PySem.Challenge.rw_tk0095_01.Holds := by
  refine holds_law said fun said => ?_
  exact holds_open (q := view) (loose := []) (Xt := fun s => xlAt view [] s && recOk (RowW.records PySem.Challenge.rw_tk0095_01.row.toRowW) s) (XP := XL view []) (Yf := Hook.obs (kHook hd.heap_1 adrs adrs_are)) (Ya := Hook.val (kHook hd.heap_1 adrs adrs_are)) (YP := Hook.says (kHook hd.heap_1 adrs adrs_are)) (N := 3422) left (Hook.of (kHook hd.heap_1 adrs adrs_are)) (Hook.keeps (kHook hd.heap_1 adrs adrs_are)) (fun s e => xl_of s (Bool.and_eq_true_iff.mp e).1) XL.keeps hdef hp hk (fun s e => recFacts_of (Bool.and_eq_true_iff.mp e).2) (by rfl) said head_ok ⟨rfl, rfl, rfl, rfl, rfl, by decide +kernel⟩ promised call
end

/- Take -/
section
def RetTake (h₀ : Heap) (L : Addr) (m : Str → Option Value) (s : Shared) (Q : Value → Shared → Prop) (box cl : Addr) (vs : List Value) (nc : Nat) (at_ many : Int) (rest : List (Addr × Obj)) : Prop :=
  ∀ (r : Int) (t t' : Tok) (nb : Nat) (h' : Heap) (tk' : Nat), 0 ≤ r → r < many → Fr h₀ L h' m →
    News h₀ L h' ((box, listOf #[Value.ref cl, Value.int (at_ + 1) t'] nb) :: (cl, listOf vs.toArray nc) :: rest) → Q (.int r t) { s with heap := h', toks := tk' }

theorem take_low {x many : Int} (h : 0 < many) : 0 ≤ x.fmod many := Int.fmod_nonneg_of_pos x h
theorem take_high {x many : Int} (h : 0 < many) : x.fmod many < many := Int.fmod_lt_of_pos x h
set_option maxHeartbeats 4000000 in
theorem take_tells (prog : Program) (w : World) (p : Program) (loose : List Str) (mean : ExcName → Option Value) (mg mb : Str → Option Value)
    (dp un : Nat) (gd : Option (List Code)) (cn : Str) (cs : Scope) (a : Addr) (ccd : Value) (lc : List (Str × Addr)) (outer : List Env) (A₀ : Around) (base h₀ : Heap) (L : Addr) (m : Str → Option Value) (s : Shared) (Q E : Value → Shared → Prop)
    (box cl : Addr) (vs : List Value) (ns : List Int) (nb nc : Nat) (at_ many : Int) (t tm : Tok) (rest : List (Addr × Obj))
    (B : Below A₀ base outer h₀) (F : Fr h₀ L s.heap m) (X : (hd.heap_1 w.params).In h₀)
    (N : News h₀ L s.heap ((box, listOf #[Value.ref cl, Value.int at_ t] nb) :: (cl, listOf vs.toArray nc) :: rest))
    (T : Top p loose mean mg mb h₀) (hk : cs.kind = .function)
    (hoff : OwnOff rest [box]) (hne : cl ≠ box) (hi : IntsAre vs ns) (hlen : ns.length < 2 ^ 30) (ha0 : 0 ≤ at_) (ha1 : at_ < 2 ^ 30) (hm0 : 0 < many) (hm1 : many < 2 ^ 30)
    (hdp : dp + 16 < recursionLimit) (hun : un + 128 < cLine)
    (hret : RetTake h₀ L m s Q box cl vs nc at_ many rest) :
    wpAny (model prog w) (ktrTop dp un gd cn cs L a ccd lc outer) (call (.ref 236) [.ref box, .int many tm]) Q E s := by
  have hMk : KstMark := kstMark
  refine wpAny_call ?_
  k_dflt cell_enter
  k_steps
  all_goals exact hret _ _ _ _ _ _ (take_low hm0) (take_high hm0) (by k_asm) (by k_asm)

/-- r is l without the one entry p -/
inductive Pick (p : Addr × Obj) : List (Addr × Obj) → List (Addr × Obj) → Prop
  | head {r} : Pick p (p :: r) r
  | tail {q r r'} : Pick p r r' → Pick p (q :: r) (q :: r')
theorem Pick.sub {p : Addr × Obj} {l r : List (Addr × Obj)} (h : Pick p l r) : ∀ q ∈ p :: r, q ∈ l := by
  induction h with
  | head => exact fun _ hq => hq
  | tail _ ih =>
    intro x hx
    rcases List.mem_cons.mp hx with rfl | hx
    · exact .tail _ (ih _ (.head _))
    · rcases List.mem_cons.mp hx with rfl | hx
      · exact .head _
      · exact .tail _ (ih _ (.tail _ hx))

theorem take_use {prog : Program} {w : World} {p : Program} {loose : List Str} {mean : ExcName → Option Value} {mg mb : Str → Option Value}
    {dp un : Nat} {gd : Option (List Code)} {cn : Str} {cs : Scope} {a : Addr} {ccd : Value} {lc : List (Str × Addr)} {outer : List Env} {A₀ : Around} {base h₀ : Heap} {L : Addr} {m : Str → Option Value} {s : Shared} {Q E : Value → Shared → Prop}
    {box cl : Addr} {vs : List Value} {ns : List Int} {nb nc : Nat} {at_ many : Int} {t tm : Tok} {news n1 rest : List (Addr × Obj)}
    (B : Below A₀ base outer h₀) (F : Fr h₀ L s.heap m) (X : (hd.heap_1 w.params).In h₀)
    (N : News h₀ L s.heap news) (T : Top p loose mean mg mb h₀) (hk : cs.kind = .function)
    (P1 : Pick (box, listOf #[Value.ref cl, Value.int at_ t] nb) news n1) (P2 : Pick (cl, listOf vs.toArray nc) n1 rest)
    (hoff : ∀ p ∈ rest, p.1 ≠ box) (hne : cl ≠ box) (hi : IntsAre vs ns) (hlen : ns.length < 2 ^ 30) (ha0 : 0 ≤ at_) (ha1 : at_ < 2 ^ 30) (hm0 : 0 < many) (hm1 : many < 2 ^ 30)
    (hdp : dp + 16 < recursionLimit) (hun : un + 128 < cLine)
    (hret : ∀ (r : Int) (t t' : Tok) (nb : Nat) (h' : Heap) (tk' : Nat), 0 ≤ r → r < many → Fr h₀ L h' m →
      News h₀ L h' ((box, listOf #[Value.ref cl, Value.int (at_ + 1) t'] nb) :: (cl, listOf vs.toArray nc) :: rest) → Q (.int r t) { s with heap := h', toks := tk' }) :
    wpAny (model prog w) (ktrTop dp un gd cn cs L a ccd lc outer) (call (.ref 236) [.ref box, .int many tm]) Q E s :=
  take_tells prog w p loose mean mg mb dp un gd cn cs a ccd lc outer A₀ base h₀ L m s Q E box cl vs ns nb nc at_ many t tm rest B F X
    (fun q hq => N q (by
      rcases List.mem_cons.mp hq with rfl | hq
      · exact P1.sub _ (.head _)
      · exact P1.sub _ (.tail _ (P2.sub _ hq)))) T hk (fun p hp b hb => by rw [List.mem_singleton.mp hb]; exact hoff p hp) hne hi hlen ha0 ha1 hm0 hm1 hdp hun hret
end

/- Defs -/
section
open PySem PySem.W PyProof.Rows PySem.Calls
abbrev MkTup (vs : List Value) : Obj := { cls := .type "tuple", data := .seq vs.toArray }
abbrev wayD (w : World) (k1 k2 k3 k4 k5 k6 : Tok) (v1 v2 v3 v4 v5 v6 : Value) : Obj :=
  dictOf [⟨PyData.keyHash w.params "datagram", .str "datagram" k1, v1⟩, ⟨PyData.keyHash w.params "window", .str "window" k2, v2⟩, ⟨PyData.keyHash w.params "threshold", .str "threshold" k3, v3⟩,
    ⟨PyData.keyHash w.params "recovery_at", .str "recovery_at" k4, v4⟩, ⟨PyData.keyHash w.params "in_flight", .str "in_flight" k5, v5⟩, ⟨PyData.keyHash w.params "credit", .str "credit" k6, v6⟩] 6
abbrev ecnD (w : World) (k1 k2 k3 k4 k5 k6 : Tok) (v1 v2 v3 v4 v5 v6 : Value) : Obj :=
  dictOf [⟨PyData.keyHash w.params "trials", .str "trials" k1, v1⟩, ⟨PyData.keyHash w.params "state", .str "state" k2, v2⟩, ⟨PyData.keyHash w.params "tried", .str "tried" k3, v3⟩,
    ⟨PyData.keyHash w.params "lost", .str "lost" k4, v4⟩, ⟨PyData.keyHash w.params "sent", .str "sent" k5, v5⟩, ⟨PyData.keyHash w.params "counts", .str "counts" k6, v6⟩] 6
abbrev seenD (w : World) (k1 : Tok) (v1 : Value) : Obj := dictOf [⟨PyData.keyHash w.params "counts", .str "counts" k1, v1⟩] 1

section
variable {prog : Program} {w : World} {A A₀ : Around} {s : Shared} {K : Frag} {L : Addr} {h₀ base : Heap} {m mg mb : Str → Option Value} {news rest : List (Addr × Obj)} {p : Program} {loose : List Str} {mean : ExcName → Option Value}

/-- a call's end that also knows what lay aside -/
theorem leave_rest {g : Heap} {R : Result → Shared → Prop} {v : Value} {s' : Shared} (NR : ∀ q ∈ rest, q.1 ≠ L ∧ h₀.get? q.1 = none) (hg : ∀ q ∈ rest, g.get? q.1 = some q.2)
    (h : LeaveK h₀ L m g (fun r s'' => News h₀ L s''.heap rest → R r s'') v s') : LeaveK h₀ L m g R v s' := by
  obtain ⟨L', m', news', F', N', k⟩ := h
  exact ⟨L', m', news', F', N', fun a b => k a b fun q hq => ⟨F'.keep _ _ (hg q hq), NR q hq⟩⟩

/-- entering a def with a part of the ledger; the rest is laid into the frame's base, and comes back as it was -/
theorem code_keep {env : Env} {outer : List Env} {R : Result → Shared → Prop} {name qual : Str} {params : Arguments} {body : List Stmt} {scope : Scope} {dV kV doc pm cdv ct oc : Value} {an od : Option Addr} {osl : Array (Option Value)} {f : Addr} {args : Args} {binds : List (Str × Value)}
    (B : Below A₀ base outer h₀) (F : Fr h₀ L s.heap m) (X₀ : K.In h₀) (N : News h₀ L s.heap news) (NR : News h₀ L s.heap rest) (off : ∀ q ∈ rest, q.1 ∉ news.map (·.1)) (T : Top p loose mean mg mb h₀) (hA : A.frames = some (env :: outer)) (hf : env.frame = some L) (hke : env.scope.kind = .function)
    (ho : K.lookup f = some ⟨oc, od, .func (fnOf name qual params body scope dV kV doc pm an cdv ct), osl⟩) (hcd : codeIn K cdv qual = true) (hroom : A.depth < recursionLimit)
    (hbind : BindsTo s (fnOf name qual params body scope dV kV doc pm an cdv ct) args binds) (hloc : ∀ y ∈ binds, scope.names.lookup y.1 = some .local)
    (h : ∀ g L' h₁, Fr h₀ L g m → Fr g L' h₁ (fun y => binds.reverse.lookup y) → News g L' h₁ news → Below A base (env :: outer) g → K.In g → Top p loose mean mg mb g → (∀ q ∈ rest, g.get? q.1 = some q.2) →
      wpAny (model prog w) (A.deeper (envOf qual scope L' f cdv)) (execs body (envOf qual scope L' f cdv))
        (fun fl s' => LeaveK h₀ L m g (fun r s'' => News h₀ L s''.heap rest → R r s'') (match fl with | .ret v => v | _ => .none) s')
        (fun e s' => wpAny (model prog w) (A.deeper (envOf qual scope L' f cdv)) (leaving (envOf qual scope L' f cdv) e) (fun _ s'' => R (.error e) s'') (fun e' s'' => R (.error e') s'') s')
        { s with heap := h₁, toks := s.toks + binds.length })
    (hco : scope.isCoroutine = false) (hgen : scope.isGenerator = false) (hk : scope.kind = .function)
    (hcell : ∀ x ∈ scope.names, x.2 ≠ .cell) : codeAny (model prog w) A (.call (.ref f) args) R s := by
  obtain ⟨FG, BG, st, lv⟩ := groundX (R := R) B F N hA hf hke
  have hg : ∀ q ∈ rest, (hideAll s.heap (news.map (·.1))).get? q.1 = some q.2 := fun q hq => hideAll_get _ (NR q hq).1 (off q hq)
  refine codeAny_call_def (fd := fnOf name qual params body scope dV kV doc pm an cdv ct) (body := body) (binds := binds) hroom ((X₀.keeps F.keep) _ _ ho) rfl (T.nolimit.keeps F.keep) (codeRec_of (X₀.keeps F.keep) hcd) rfl hbind hcell hloc (fun h₁ hns hk₁ => ?_) hco hgen hk
  exact wpAny_mono (h _ s.heap.objs.size h₁ FG ⟨hns, fun b o e => hk₁ b o (of_hideAll _ e), Nat.le_of_eq (hideAll_size _ _)⟩
    (fun q hq => ⟨hk₁ _ _ (N q hq).1, Nat.ne_of_lt (Heap.lt_size (N q hq).1), hideAll_none _ (List.mem_map_of_mem hq)⟩) BG (X₀.keeps st) (T.keeps st) hg)
    (fun fl s' hl => lv _ _ (leave_rest (fun q hq => (NR q hq).2) hg hl)) fun _ _ y => y
end

section
variable {prog : Program} {w : World} {A : Around} {E : Value → Shared → Prop} {s : Shared} {h₀ : Heap} {L : Addr} {news : List (Addr × Obj)}
theorem item_tupN {value slice : PySem.Expr} {t : Addr} {l : List Value} {n j : Nat} {k : Int} {u : Tok} {x : Value} {Q : Value → Shared → Prop} (N : News h₀ L s.heap news) (hm : (t, ({ cls := .type "tuple", data := .seq l.toArray n } : Obj)) ∈ news)
    (hk : k = (j : Int)) (hj : j < 100) (hx : l[j]? = some x) (h : Q x s)
    (hs : subscripted slice false (.ref t) (.int k u) = operate [.ref t, .int k u] (getItem (.ref t) (.int k u)) := by with_unfolding_all rfl) :
    wpAny (model prog w) A (subscriptTail value slice (.ref t) (.int k u)) Q E s := by
  have ht : IsTup s.heap t l.toArray := ⟨_, (N _ hm).1, rfl, _, rfl⟩
  have hlt : j < l.length := (List.getElem?_eq_some_iff.mp hx).1
  exact item_tupleT ht (by omega) (by omega) (seqIndex_of (by omega) (by omega)) (by rw [hk, Int.toNat_natCast]; exact hx) h hs
theorem item_lstN {value slice : PySem.Expr} {t : Addr} {l : List Value} {n j : Nat} {k : Int} {u : Tok} {x : Value} {Q : Value → Shared → Prop} (N : News h₀ L s.heap news) (hm : (t, ({ cls := .type "list", data := .seq l.toArray n } : Obj)) ∈ news)
    (hk : k = (j : Int)) (hj : j < 100) (hx : l[j]? = some x) (h : Q x s)
    (hs : subscripted slice false (.ref t) (.int k u) = operate [.ref t, .int k u] (getItem (.ref t) (.int k u)) := by with_unfolding_all rfl) :
    wpAny (model prog w) A (subscriptTail value slice (.ref t) (.int k u)) Q E s := by
  have ht : s.heap.IsList t l.toArray := ⟨_, (N _ hm).1, rfl, _, rfl⟩
  exact item_litK ht (by omega) (by omega) (by rw [hk, Int.toNat_natCast]; exact hx) h hs
theorem wp_tok {M : Model} {α : Type} {t : Sem α} {Q : α → Shared → Prop} {h : Heap} {g d o X} (hh : ∀ tk, wpAny M A t Q E ⟨h, g, d, tk, o⟩) : wpAny M A t Q E ⟨h, g, d, X, o⟩ := hh X
end

/-- two addresses are two (a word of its own, so that omega does not split on it) -/
structure Apart (a b : Addr) : Prop where
  ne : a ≠ b
theorem Apart.en {a b : Addr} (h : Apart a b) : b ≠ a := h.ne.symm
def Aps (a : Addr) : List Addr → Prop
  | [] => True
  | b :: r => Apart a b ∧ Aps a r
theorem Aps.get {a b : Addr} : ∀ {l : List Addr}, Aps a l → b ∈ l → a ≠ b
  | _ :: _, h, .head _ => h.1.ne
  | _ :: _, h, .tail _ m => Aps.get h.2 m
theorem Aps.gets {a b : Addr} {l : List Addr} (h : Aps a l) (m : b ∈ l) : b ≠ a := (h.get m).symm
theorem Aps.of {a : Addr} : ∀ {l : List (Addr × Obj)}, (∀ q ∈ l, a ≠ q.1) → Aps a (l.map (·.1))
  | [], _ => trivial
  | _ :: _, h => ⟨⟨h _ (.head _)⟩, Aps.of fun q hq => h q (.tail _ hq)⟩
theorem Aps.of1 {D : Addr} : ∀ {l : List (Addr × Obj)}, LCg.Off1 D l → Aps D (l.map (·.1))
  | [], _ => trivial
  | _ :: _, h => ⟨⟨fun e => h.1 e.symm⟩, Aps.of1 h.2⟩
def AllApart : List Addr → Prop
  | [] => True
  | a :: r => Aps a r ∧ AllApart r

/-- a contract of a def: from the ledger's part A it comes to Post, whatever lies aside -/
def Spec (prog : Program) (w : World) (dn : Nat) (f : Addr) (args : List Value) (A : List (Addr × Obj)) (Post : Value → List (Addr × Obj) → Prop) : Prop :=
  ∀ (p : Program) (loose : List Str) (mean : ExcName → Option Value) (mg mb : Str → Option Value) (dp un : Nat) (gd : Option (List Code)) (cn : Str) (cs : Scope) (a : Addr) (ccd : Value) (lc : List (Str × Addr)) (outer : List Env)
    (A₀ : Around) (base h₀ : Heap) (L : Addr) (m : Str → Option Value) (s : Shared) (Q E : Value → Shared → Prop) (rest : List (Addr × Obj)),
    Below A₀ base outer h₀ → Fr h₀ L s.heap m → (hd.heap_1 w.params).In h₀ → News h₀ L s.heap A → News h₀ L s.heap rest → (∀ q ∈ rest, q.1 ∉ A.map (·.1)) →
    Top p loose mean mg mb h₀ → cs.kind = .function → dp + dn < recursionLimit → un + 8 * dn < cLine →
    (∀ v A' h' tk', Post v A' → Fr h₀ L h' m → News h₀ L h' A' → News h₀ L h' rest → (∀ q ∈ A', ∀ r ∈ rest, q.1 ≠ r.1) → Q v { s with heap := h', toks := tk' }) →
    wpAny (model prog w) (ktrTop dp un gd cn cs L a ccd lc outer) (call (.ref f) args) Q E s

/-- A picked out of l, entry by entry; r is left -/
inductive Picks : List (Addr × Obj) → List (Addr × Obj) → List (Addr × Obj) → Prop
  | nil {l} : Picks [] l l
  | cons {q A l l' r} : Pick q l l' → Picks A l' r → Picks (q :: A) l r
theorem Picks.sub {A l r : List (Addr × Obj)} (h : Picks A l r) : (∀ q ∈ A, q ∈ l) ∧ ∀ q ∈ r, q ∈ l := by
  induction h with
  | nil => exact ⟨fun _ h => (nomatch h), fun _ h => h⟩
  | cons h1 _ ih =>
    have s := h1.sub
    refine ⟨fun x hx => ?_, fun x hx => s x (.tail _ (ih.2 x hx))⟩
    rcases List.mem_cons.mp hx with rfl | hx
    · exact s _ (.head _)
    · exact s _ (.tail _ (ih.1 x hx))
theorem news_app {h₀ h : Heap} {L : Addr} {a b : List (Addr × Obj)} (N : News h₀ L h a) (N' : News h₀ L h b) : News h₀ L h (a ++ b) :=
  fun q hq => (List.mem_append.mp hq).elim (N q) (N' q)

theorem spec_use {prog : Program} {w : World} {dn : Nat} {f : Addr} {args : List Value} {A : List (Addr × Obj)} {Post : Value → List (Addr × Obj) → Prop}
    {p : Program} {loose : List Str} {mean : ExcName → Option Value} {mg mb : Str → Option Value} {dp un : Nat} {gd : Option (List Code)} {cn : Str} {cs : Scope} {a : Addr} {ccd : Value} {lc : List (Str × Addr)} {outer : List Env}
    {A₀ : Around} {base h₀ : Heap} {L : Addr} {m : Str → Option Value} {s : Shared} {Q E : Value → Shared → Prop} {news rest : List (Addr × Obj)}
    (B : Below A₀ base outer h₀) (F : Fr h₀ L s.heap m) (X : (hd.heap_1 w.params).In h₀) (N : News h₀ L s.heap news) (T : Top p loose mean mg mb h₀) (hk : cs.kind = .function)
    (P : Picks A news rest) (S : Spec prog w dn f args A Post) (off : ∀ q ∈ rest, ∀ r ∈ A, q.1 ≠ r.1) (hdp : dp + dn < recursionLimit) (hun : un + 8 * dn < cLine)
    (ret : ∀ v A' h' tk', Post v A' → Fr h₀ L h' m → News h₀ L h' (A' ++ rest) → (∀ q ∈ A', ∀ r ∈ rest, q.1 ≠ r.1) → Q v { s with heap := h', toks := tk' }) :
    wpAny (model prog w) (ktrTop dp un gd cn cs L a ccd lc outer) (call (.ref f) args) Q E s :=
  S _ _ _ _ _ _ _ _ _ _ _ _ _ _ _ _ _ _ _ _ _ _ _ B F X (fun q hq => N q (P.sub.1 q hq)) (fun q hq => N q (P.sub.2 q hq))
    (fun q hq hm => by obtain ⟨r, hr, e⟩ := List.mem_map.mp hm; exact off q hq r hr e.symm) T hk hdp hun
    fun v A' h' tk' hP F' N' NR' o => ret v A' h' tk' hP F' (news_app N' NR') o
/-- what a frame made is not what lay aside -/
theorem news_off {g h : Heap} {L : Addr} {all A rest : List (Addr × Obj)} (N : News g L h all) (hs : ∀ q ∈ A, q ∈ all) (hg : ∀ q ∈ rest, g.get? q.1 = some q.2) : ∀ q ∈ A, ∀ r ∈ rest, q.1 ≠ r.1 :=
  fun q hq r hr e => by have := (N q (hs q hq)).2.2; rw [e, hg r hr] at this; cases this

/-- an address apart from a ledger's; a ledger apart from another -/
def Off1 (a : Addr) (A : List (Addr × Obj)) : Prop := ∀ r ∈ A, a ≠ r.1
def Offs (R A : List (Addr × Obj)) : Prop := ∀ q ∈ R, Off1 q.1 A
theorem off1_nil {a : Addr} : Off1 a [] := fun _ h => nomatch h
theorem off1_cons {a b : Addr} {o : Obj} {A : List (Addr × Obj)} (h : a ≠ b) (t : Off1 a A) : Off1 a ((b, o) :: A) := List.forall_mem_cons.mpr ⟨h, t⟩
theorem offs_nil {A : List (Addr × Obj)} : Offs [] A := fun _ h => nomatch h
theorem offs_cons {a : Addr} {o : Obj} {R A : List (Addr × Obj)} (h : Off1 a A) (t : Offs R A) : Offs ((a, o) :: R) A := List.forall_mem_cons.mpr ⟨h, t⟩
theorem aps_nil {a : Addr} : Aps a [] := trivial
theorem aps_cons {a b : Addr} {l : List Addr} (h : a ≠ b) (t : Aps a l) : Aps a (b :: l) := ⟨⟨h⟩, t⟩
theorem all_nil : AllApart [] := trivial
theorem all_cons {a : Addr} {l : List Addr} (h : Aps a l) (t : AllApart l) : AllApart (a :: l) := ⟨h, t⟩
/-- a contract told to a continuation -/
def SpecC (prog : Program) (w : World) (dn : Nat) (f : Addr) (args : List Value) (A : List (Addr × Obj)) (C : (Value → List (Addr × Obj) → Prop) → Prop) : Prop :=
  ∃ Post, Spec prog w dn f args A Post ∧ ∀ v A' K, Post v A' → C K → K v A'
theorem spec_useC {prog : Program} {w : World} {dn : Nat} {f : Addr} {args : List Value} {A : List (Addr × Obj)} {C : (Value → List (Addr × Obj) → Prop) → Prop}
    {p : Program} {loose : List Str} {mean : ExcName → Option Value} {mg mb : Str → Option Value} {dp un : Nat} {gd : Option (List Code)} {cn : Str} {cs : Scope} {a : Addr} {ccd : Value} {lc : List (Str × Addr)} {outer : List Env}
    {A₀ : Around} {base h₀ : Heap} {L : Addr} {m : Str → Option Value} {s : Shared} {Q E : Value → Shared → Prop} {news rest : List (Addr × Obj)}
    (B : Below A₀ base outer h₀) (F : Fr h₀ L s.heap m) (X : (hd.heap_1 w.params).In h₀) (N : News h₀ L s.heap news) (T : Top p loose mean mg mb h₀) (hk : cs.kind = .function)
    (P : Picks A news rest) (S : SpecC prog w dn f args A C) (off : Offs rest A) (hdp : dp + dn < recursionLimit) (hun : un + 8 * dn < cLine)
    (ret : C fun v A' => ∀ h' tk', Fr h₀ L h' m → News h₀ L h' (A' ++ rest) → (∀ q ∈ A', ∀ r ∈ rest, q.1 ≠ r.1) → Q v { s with heap := h', toks := tk' }) :
    wpAny (model prog w) (ktrTop dp un gd cn cs L a ccd lc outer) (call (.ref f) args) Q E s := by
  obtain ⟨Post, S, c⟩ := S
  exact spec_use B F X N T hk P S off hdp hun fun v A' h' tk' hP F' N' o => c v A' _ hP ret h' tk' F' N' o
end
section
local macro_rules | `(tactic| kd_in) => `(tactic| first | exact Pick.head | (refine' Pick.tail ?a; (case a => kd_in)))
local macro_rules | `(tactic| kd_all) => `(tactic| first | exact Picks.nil | (refine' Picks.cons ?a ?b; (case a => kd_in); (case b => kd_all)))
local macro_rules | `(tactic| kd_subs) => `(tactic| first | (with_reducible exact all_nil) | (with_reducible exact aps_nil) | (with_reducible exact True.intro) | ((with_reducible refine' all_cons ?a ?b); (case a | b => kd_subs)) | ((with_reducible refine' aps_cons ?a ?b); (case a => k_ne); (case b => kd_subs)) | (refine' And.intro ?a ?b; (case a | b => kd_subs)) | (refine' Apart.mk ?a; (case a => k_ne)))
local macro_rules | `(tactic| kd_facts1) => `(tactic| first | (with_reducible exact offs_nil) | (with_reducible exact off1_nil) | ((with_reducible refine' offs_cons ?a ?b); (case a | b => kd_facts1)) | ((with_reducible refine' off1_cons ?a ?b); (case a => k_ne); (case b => kd_facts1)) | exact List.forall_mem_nil _ | (refine' List.forall_mem_cons.mpr ⟨?a, ?b⟩; (case a | b => kd_facts1)) | k_ne)
section
local macro_rules | `(tactic| k_ne) => `(tactic| ((try dsimp only); first | exact Aps.get (by with_reducible assumption) (by k_memK) | exact Aps.gets (by with_reducible assumption) (by k_memK) | fail "k_ne"))
local macro_rules | `(tactic| lcg_off) => `(tactic| assumption)
local macro_rules | `(tactic| walk_at "exec Assign cons ListComp") => `(tactic| ((with_reducible show wpAny _ _ (exec (Stmt.Assign [Expr.Tuple _ _ _] _ _) _) _ _ _); k_dflt (refine Assign_Tuple ?_)))
local macro_rules | `(tactic| walk_at "CompRest") => `(tactic| (k_dflt (with_unfolding_all first
  | (refine LCg.CompRest.succ ?_; intro v' I' oI' C' oC' D' m' h' tk' E' hv' hC' hx' F' N' off' ne'; (first | lcg_open hv' | (obtain ⟨t9', hv9'⟩ := hv'; subst hv9')))
  | refine LCg.CompRest.zero ?_)))
local macro_rules | `(tactic| walk_at "FinE") => `(tactic| (k_dflt ((unfold LCg.FinE); intro D' h' tk' F' N' o1'; (replace o1' := Aps.of1 o1'; simp only [List.map_cons, List.map_nil] at o1'); (try simp only [List.nil_append, List.cons_append] at N'); (try dsimp only))))
local macro_rules | `(tactic| tb_start) => `(tactic| (
  k_dflt (refine' code_keep ?k1 ?k2 ?k3 ?k4 ?kR ?kO ?k5 ?kA ?kF ?kK ?k6 ?k7 ?k8 ?k9 ?kB ?_ ?c2 ?c3 ?c4 ?c5; (case kA | kF => exact rfl); (case kK => assumption); (case k1 | k2 | k3 | kO | k4 | kR | k5 => k_asm); (case k6 | k7 => k_is); (case k8 => ktr_room); (case k9 => exact BindsTo.of_eq rfl); (case c5 => decide); (case kB => exact locs rfl); (case c2 | c3 | c4 => exact rfl); k_whole);
  intro g' L' h' FG' F' N' B' X' T' hg'; (try dsimp only); (try k_lift B'); (try k_fold)))
local macro_rules | `(tactic| walk_at "subscriptTail") => `(tactic| (k_here; (with_reducible show wpAny _ _ (subscriptTail _ _ (Value.ref _) (Value.int _ _)) _ _ _); k_dflt (first
  | (refine' item_tupN ?N ?m ?e ?j ?x ?_; (case N => k_asm); (case m => k_mem); (case e => exact rfl); (case j => decide); (case x => exact rfl))
  | (refine' item_lstN ?N ?m ?e ?j ?x ?_; (case N => k_asm); (case m => k_mem); (case e => exact rfl); (case j => decide); (case x => exact rfl)))))
local macro_rules | `(tactic| walk_at "getMethod ref") => `(tactic| ((with_reducible show wpAny _ _ (getMethod (Value.ref _) (Str.ofString "count") _) _ _ _); k_dflt (with_unfolding_all refine getMethod_list_of PySem.F.slot_list_count PySem.F.type_list_count (by is_list) (by no_dict) ?_)))
local macro_rules | `(tactic| walk_at "execs") => `(tactic| ((with_reducible show wpAny _ _ _ _ _ (Shared.mk _ _ _ (_ + 1 + 1) _)); refine wp_tok ?_; intro tk'))
local macro_rules | `(tactic| walk_at "execs nil") => `(tactic| ((with_reducible show wpAny _ _ _ _ _ (Shared.mk _ _ _ (_ + 1 + 1) _)); refine wp_tok ?_; intro tk'))
local macro_rules | `(tactic| walk_at "execs cons") => `(tactic| ((with_reducible show wpAny _ _ _ _ _ (Shared.mk _ _ _ (_ + 1 + 1) _)); refine wp_tok ?_; intro tk'))
local macro_rules | `(tactic| kd_facts) => `(tactic| with_unfolding_all assumption)
section
local macro_rules | `(tactic| walk_at "CompSrc BinOp") => `(tactic| (k_here; k_dflt
  (refine LCg.CompSrc.range (by rfl) (by k_asm) (by k_asm) (by assumption) (by first | decide | rfl) (by first | rfl | decide) (by first | size_fits | exact Nat.le_of_ble_eq_true rfl) ?_; intro g'; lcg_lit)))
local macro_rules | `(tactic| walk_at "CompEnd") => `(tactic| k_dflt lcg_end)

/- Fit -/
section
section
variable {prog : Program} {w : World} {A A₀ : Around} {s : Shared} {K : Frag} {L : Addr} {h₀ base : Heap} {m mg mb : Str → Option Value} {news rest : List (Addr × Obj)} {p : Program} {loose : List Str} {mean : ExcName → Option Value}
/-- entering a def that has cells with a part of the ledger (as code_keep) -/
theorem code_keepC {env : Env} {outer : List Env} {R : Result → Shared → Prop} {name qual : Str} {params : Arguments} {body : List Stmt} {scope : Scope} {dV kV doc pm cdv ct oc : Value} {an od : Option Addr} {osl : Array (Option Value)} {f : Addr} {args : Args} {binds : List (Str × Value)}
    (B : Below A₀ base outer h₀) (F : Fr h₀ L s.heap m) (X₀ : K.In h₀) (N : News h₀ L s.heap news) (NR : News h₀ L s.heap rest) (off : ∀ q ∈ rest, q.1 ∉ news.map (·.1)) (T : Top p loose mean mg mb h₀) (hA : A.frames = some (env :: outer)) (hf : env.frame = some L) (hke : env.scope.kind = .function)
    (ho : K.lookup f = some ⟨oc, od, .func (fnOf name qual params body scope dV kV doc pm an cdv ct), osl⟩) (hcd : codeIn K cdv qual = true) (hroom : A.depth < recursionLimit)
    (hbind : BindsTo s (fnOf name qual params body scope dV kV doc pm an cdv ct) args binds) (hkind : (binds.all fun y => scope.names.lookup y.1 == some .local || scope.names.lookup y.1 == some .cell) = true)
    (hnd : ((cellsFrom 0 scope.names []).map (·.1)).Nodup)
    (h : ∀ g L' h₁ tk cells, Fr h₀ L g m → Fr g L' h₁ (bindL (envOfC qual scope L' f cdv).kindOf binds fun _ => none) → News g L' h₁ (cells ++ news) →
      CellsAre (bindC (envOfC qual scope L' f cdv).kindOf binds fun _ => none) (cellsFrom (L' + 1) scope.names []) cells → Below A base (env :: outer) g → K.In g → Top p loose mean mg mb g → (∀ q ∈ news, q.1 < L') → (∀ q ∈ rest, g.get? q.1 = some q.2) →
      wpAny (model prog w) (A.deeper (envOfC qual scope L' f cdv)) (execs body (envOfC qual scope L' f cdv))
        (fun fl s' => LeaveK h₀ L m g (fun r s'' => News h₀ L s''.heap rest → R r s'') (match fl with | .ret v => v | _ => .none) s')
        (fun e s' => wpAny (model prog w) (A.deeper (envOfC qual scope L' f cdv)) (leaving (envOfC qual scope L' f cdv) e) (fun _ s'' => R (.error e) s'') (fun e' s'' => R (.error e') s'') s')
        { s with heap := h₁, toks := tk })
    (hco : scope.isCoroutine = false) (hgen : scope.isGenerator = false) (hk : scope.kind = .function) : codeAny (model prog w) A (.call (.ref f) args) R s := by
  obtain ⟨FG, BG, st, lv⟩ := groundX (R := R) B F N hA hf hke
  have hg : ∀ q ∈ rest, (hideAll s.heap (news.map (·.1))).get? q.1 = some q.2 := fun q hq => hideAll_get _ (NR q hq).1 (off q hq)
  refine codeAny_call_function hroom ((X₀.keeps F.keep) _ _ ho) rfl hco hgen rfl (codeRec_of (X₀.keeps F.keep) hcd) (hbind _ _ _ _ ?_)
  refine wpAny_newFunctionEnv_cells hk (kindsX hkind _) fun env' he s' x => ?_
  subst he
  refine ⟨(T.nolimit.keeps F.keep).keeps x.toInCall.keep, codeAny_func ?_⟩
  obtain ⟨h₁, tk, rfl, _⟩ := x.done
  have kp := x.toInCall.keep
  have sz : ∀ q ∈ news, q.1 < s.heap.objs.size := fun q hq => Heap.lt_size (N q hq).1
  obtain ⟨cells, NC, Y⟩ := Cl.news (h₀ := s.heap) (Nat.le_refl _) fun n c hm => ⟨x.cell n c (lookup_of_mem_nodup (cellsFrom_names scope.names 0 (s.heap.objs.size + 1) [] [] rfl ▸ hnd) hm), x.above n c hm⟩
  have N₁ : News (hideAll s.heap (news.map (·.1))) s.heap.objs.size h₁ (cells ++ news) := by
    refine news_app (fun q hq => ⟨(NC q hq).1, (NC q hq).2.1, ?_⟩) fun q hq => ⟨kp _ _ (N q hq).1, Nat.ne_of_lt (sz q hq), hideAll_none _ (List.mem_map_of_mem hq)⟩
    rcases e : (hideAll s.heap (news.map (·.1))).get? q.1 with _ | o
    · exact e
    · have e' := of_hideAll _ e
      rw [(NC q hq).2.2] at e'; exact nomatch e'
  exact wpAny_mono (h _ s.heap.objs.size h₁ tk cells FG ⟨x.toInCall.ns, fun b o e => kp b o (of_hideAll _ e), Nat.le_of_eq (hideAll_size _ _)⟩ N₁ Y BG (X₀.keeps st) (T.keeps st) sz hg)
    (fun fl s' hl => lv _ _ (leave_rest (fun q hq => (NR q hq).2) hg hl)) fun _ _ y => y
end
set_option maxHeartbeats 16000000 in
theorem fit_tells (prog : Program) (w : World) (Tb Ta Tk Ts : Addr) (z1 z2 z3 u1 u2 u3 q1 q2 y1 y2 : Tok) (z c z' c' a b n1 : Int)
    (hnd : AllApart [Tb, Ta, Tk, Ts]) (ha : a = 1) (hb : b = 0)
    (hz : z ≤ z') (hc : c ≤ c') (hs : z' + c' = n1) (hs1 : z' + c' = z + c + 1) (hz0 : 0 ≤ z) (hc0 : 0 ≤ c) (hn1 : n1 < 100) :
    Spec prog w 8 131 [.ref Tb, .ref Ta, .ref Tk, .ref Ts]
      [(Tb, MkTup [.int z z1, .int 0 z2, .int c z3]), (Ta, MkTup [.int z' u1, .int 0 u2, .int c' u3]), (Tk, MkTup [.int a q1, .int b q2]), (Ts, MkTup [.int n1 y1, .int 0 y2])]
      (fun v A' => v = .bool true ∧ A' = [(Tb, MkTup [.int z z1, .int 0 z2, .int c z3]), (Ta, MkTup [.int z' u1, .int 0 u2, .int c' u3]), (Tk, MkTup [.int a q1, .int b q2]), (Ts, MkTup [.int n1 y1, .int 0 y2])]) := by
  subst ha hb
  intro p loose mean mg mb dp un gd cn cs a ccd lc outer A₀ base h₀ L m s Q E rest B F X N NR hoff T hk hdp hun hret
  have hMk : KstMark := kstMark
  simp only [AllApart] at hnd
  obtain ⟨_, _, _, _, _⟩ := hnd
  refine wpAny_call ?_
  k_dflt (refine' code_keepC ?k1 ?k2 ?k3 ?k4 ?kR ?kO ?k5 ?kA ?kF ?kK ?k6 ?k7 ?k8 ?k9 ?kB ?kD ?_ ?c2 ?c3 ?c4; (case kA => exact rfl); (case kF => exact rfl); (case kK => assumption); (case k1 => k_asm); (case k2 => k_asm); (case k3 => k_asm); (case kO => k_asm); (case k4 => k_asm); (case kR => k_asm); (case k5 => k_asm); (case k6 => k_is); (case k7 => k_is); (case k8 => ktr_room); (case k9 => exact BindsTo.of_eq rfl); (case kB => exact rfl); (case kD => decide +kernel); (case c2 => exact rfl); (case c3 => exact rfl); (case c4 => exact rfl); k_whole)
  intro g' L' h' tk' cells' FG' F' N' Y' B' X' T' l1 hg'
  (try k_lt l1)
  k_cells Y'
  (try simp only [List.cons_append, List.nil_append] at N')
  (try dsimp only)
  (try k_lift B')
  (try k_fold)
  k_steps
  (all_goals (try k_data))
  all_goals (
    rename News h₀ L _ (_ :: _) => kN
    rename ∀ q ∈ rest, Heap.get? _ _ = some _ => hg
    refine' hret _ [(Tb, _), (Ta, _), (Tk, _), (Ts, _)] _ _ ⟨?hv, rfl⟩ (by k_asm) (kst_newsOf kN ?hs) (by k_asm) (news_off (all := _) ?hn ?ho hg)
    case hs => lcg_sub
    case hn => k_asm
    case ho => lcg_sub
    case hv => first | rfl | (refine congrArg Value.bool ?_; simp; omega))
set_option maxHeartbeats 16000000 in
theorem packet_tells (prog : Program) (w : World) (sn ds T1 : Addr) (f1 z1 z2 z3 tm : Tok) (z c mk : Int) (b : Bool)
    (hnd : AllApart [sn, ds, T1]) (hm : mk = if b then 3 else 2) (hz0 : 0 ≤ z) (hc0 : 0 ≤ c) (hz1 : z < 100) (hc1 : c < 100) :
    Spec prog w 8 215 [.ref sn, .int mk tm] [(sn, instObj 225 ds), (ds, seenD w f1 (.ref T1)), (T1, MkTup [.int z z1, .int 0 z2, .int c z3])]
      (fun v A' => ∃ T1' z1' z2' z3' z' o' c', v = .none ∧ z' = z + (if b then 0 else 1) ∧ o' = 0 ∧ c' = c + (if b then 1 else 0) ∧ Aps T1' [sn, ds, T1] ∧
        A' = [(sn, instObj 225 ds), (ds, seenD w f1 (.ref T1')), (T1', MkTup [.int z' z1', .int o' z2', .int c' z3']), (T1, MkTup [.int z z1, .int 0 z2, .int c z3])]) := by
  have e22 : (if ((2 : Int) == 2) = true then (1 : Int) else 0) = 1 := rfl
  have e21 : (if ((2 : Int) == 1) = true then (1 : Int) else 0) = 0 := rfl
  have e23 : (if ((2 : Int) == 3) = true then (1 : Int) else 0) = 0 := rfl
  have e33 : (if ((3 : Int) == 3) = true then (1 : Int) else 0) = 1 := rfl
  have e31 : (if ((3 : Int) == 1) = true then (1 : Int) else 0) = 0 := rfl
  have e32 : (if ((3 : Int) == 2) = true then (1 : Int) else 0) = 0 := rfl
  intro p loose mean mg mb dp un gd cn cs a ccd lc outer A₀ base h₀ L m s Q E rest B F X N NR hoff T hk hdp hun hret
  have hMk : KstMark := kstMark
  simp only [AllApart] at hnd
  obtain ⟨_, _, _, _⟩ := hnd
  refine wpAny_call ?_
  tb_start
  k_steps
  (all_goals (try k_data))
  all_goals (
    rename News h₀ L _ (_ :: _) => kN
    rename ∀ q ∈ rest, Heap.get? _ _ = some _ => hg
    refine' hret _ [(sn, _), (ds, seenD w f1 (.ref _)), (_, MkTup [.int _ _, .int _ _, .int _ _]), (T1, _)] _ _ ⟨_, _, _, _, _, _, _, rfl, ?h1, ?h2, ?h3, ?h4, rfl⟩ (by k_asm) (kst_newsOf kN ?hs) (by k_asm) (news_off (all := _) ?hn ?ho hg)
    case hs => lcg_sub
    case hn => k_asm
    case ho => lcg_sub
    case h1 => subst hm; cases b <;> rfl
    case h2 => subst hm; cases b <;> rfl
    case h3 => subst hm; cases b <;> rfl
    case h4 => exact ⟨⟨by k_ne⟩, ⟨by k_ne⟩, ⟨by k_ne⟩, trivial⟩)
set_option maxHeartbeats 16000000 in
theorem told_tells (prog : Program) (w : World) (sn ds T1 : Addr) (f1 z1 z2 z3 : Tok) (z o c : Int)
    (hnd : AllApart [sn, ds, T1]) (hz0 : 0 ≤ z) (ho : o = 0) (hc0 : 0 ≤ c) (hzc : 0 < z + c) (hz1 : z < 100) (hc1 : c < 100) :
    Spec prog w 8 222 [.ref sn] [(sn, instObj 225 ds), (ds, seenD w f1 (.ref T1)), (T1, MkTup [.int z z1, .int o z2, .int c z3])]
      (fun v A' => v = .ref T1 ∧ A' = [(sn, instObj 225 ds), (ds, seenD w f1 (.ref T1)), (T1, MkTup [.int z z1, .int o z2, .int c z3])]) := by
  subst ho
  intro p loose mean mg mb dp un gd cn cs a ccd lc outer A₀ base h₀ L m s Q E rest B F X N NR hoff T hk hdp hun hret
  have hMk : KstMark := kstMark
  simp only [AllApart] at hnd
  obtain ⟨_, _, _, _⟩ := hnd
  refine wpAny_call ?_
  tb_start
  k_steps
  (all_goals (try k_data))
  all_goals (
    rename News h₀ L _ (_ :: _) => kN
    rename ∀ q ∈ rest, Heap.get? _ _ = some _ => hg
    refine' hret _ [(sn, _), (ds, _), (T1, _)] _ _ ⟨rfl, rfl⟩ (by k_asm) (kst_newsOf kN ?hs) (by k_asm) (news_off (all := _) ?hn ?ho hg)
    case hs => lcg_sub
    case hn => k_asm
    case ho => lcg_sub)
set_option maxHeartbeats 16000000 in
theorem wsent_tells (prog : Program) (w : World) (way dw : Addr) (k1 k2 k3 k4 k5 k6 t1 t2 t5 t6 tz : Tok) (thr rec : Value) (d win size cr : Int)
    (hnd : AllApart [way, dw]) (hs0 : 0 ≤ size) (hs1 : size < 1000000) :
    Spec prog w 8 77 [.ref way, .int size tz] [(way, instObj 122 dw), (dw, wayD w k1 k2 k3 k4 k5 k6 (.int d t1) (.int win t2) thr rec (.int 0 t5) (.int cr t6))]
      (fun v A' => ∃ t5' f2, v = .none ∧ f2 = size ∧ A' = [(way, instObj 122 dw), (dw, wayD w k1 k2 k3 k4 k5 k6 (.int d t1) (.int win t2) thr rec (.int f2 t5') (.int cr t6))]) := by
  intro p loose mean mg mb dp un gd cn cs a ccd lc outer A₀ base h₀ L m s Q E rest B F X N NR hoff T hk hdp hun hret
  have hMk : KstMark := kstMark
  simp only [AllApart] at hnd
  obtain ⟨_, _, _⟩ := hnd
  refine wpAny_call ?_
  tb_start
  k_steps
  (all_goals (try k_data))
  all_goals (
    rename News h₀ L _ (_ :: _) => kN
    rename ∀ q ∈ rest, Heap.get? _ _ = some _ => hg
    refine' hret _ [(way, _), (dw, wayD w k1 k2 k3 k4 k5 k6 (.int d t1) (.int win t2) thr rec (.int _ _) (.int cr t6))] _ _ ⟨_, _, rfl, ?h1, rfl⟩ (by k_asm) (kst_newsOf kN ?hs) (by k_asm) (news_off (all := _) ?hn ?ho hg)
    case hs => lcg_sub
    case hn => k_asm
    case ho => lcg_sub
    case h1 => exact Int.zero_add _)
set_option maxHeartbeats 16000000 in
theorem may_tells (prog : Program) (w : World) (way dw : Addr) (k1 k2 k3 k4 k5 k6 t1 t2 t5 t6 tz : Tok) (thr rec : Value) (d win size cr : Int)
    (hnd : AllApart [way, dw]) (hs0 : 0 ≤ size) (hs1 : size < 1000000) (hw1 : win < 1000000) :
    Spec prog w 8 56 [.ref way, .int size tz] [(way, instObj 122 dw), (dw, wayD w k1 k2 k3 k4 k5 k6 (.int d t1) (.int win t2) thr rec (.int 0 t5) (.int cr t6))]
      (fun v A' => ∃ b, v = .bool b ∧ b = decide (size ≤ win) ∧ A' = [(way, instObj 122 dw), (dw, wayD w k1 k2 k3 k4 k5 k6 (.int d t1) (.int win t2) thr rec (.int 0 t5) (.int cr t6))]) := by
  intro p loose mean mg mb dp un gd cn cs a ccd lc outer A₀ base h₀ L m s Q E rest B F X N NR hoff T hk hdp hun hret
  have hMk : KstMark := kstMark
  simp only [AllApart] at hnd
  obtain ⟨_, _, _⟩ := hnd
  refine wpAny_call ?_
  tb_start
  k_steps
  (all_goals (try k_data))
  all_goals (
    rename News h₀ L _ (_ :: _) => kN
    rename ∀ q ∈ rest, Heap.get? _ _ = some _ => hg
    refine' hret _ [(way, _), (dw, _)] _ _ ⟨_, rfl, ?h1, rfl⟩ (by k_asm) (kst_newsOf kN ?hs) (by k_asm) (news_off (all := _) ?hn ?ho hg)
    case hs => lcg_sub
    case hn => k_asm
    case ho => lcg_sub
    case h1 => simp)
theorem fit_spec {prog : Program} {w : World} {Tb Ta Tk Ts : Addr} {z1 z2 z3 u1 u2 u3 q1 q2 y1 y2 : Tok} {z c z' c' a b n1 : Int}
    (hnd : AllApart [Tb, Ta, Tk, Ts]) (ha : a = 1) (hb : b = 0)
    (hz : z ≤ z') (hc : c ≤ c') (hs : z' + c' = n1) (hs1 : z' + c' = z + c + 1) (hz0 : 0 ≤ z) (hc0 : 0 ≤ c) (hn1 : n1 < 100) :
    Spec prog w 8 131 [.ref Tb, .ref Ta, .ref Tk, .ref Ts]
      [(Tb, MkTup [.int z z1, .int 0 z2, .int c z3]), (Ta, MkTup [.int z' u1, .int 0 u2, .int c' u3]), (Tk, MkTup [.int a q1, .int b q2]), (Ts, MkTup [.int n1 y1, .int 0 y2])]
      (fun v A' => v = .bool true ∧ A' = [(Tb, MkTup [.int z z1, .int 0 z2, .int c z3]), (Ta, MkTup [.int z' u1, .int 0 u2, .int c' u3]), (Tk, MkTup [.int a q1, .int b q2]), (Ts, MkTup [.int n1 y1, .int 0 y2])]) :=
  fit_tells prog w Tb Ta Tk Ts z1 z2 z3 u1 u2 u3 q1 q2 y1 y2 z c z' c' a b n1 hnd ha hb hz hc hs hs1 hz0 hc0 hn1
theorem packet_yes {prog : Program} {w : World} {sn ds T1 : Addr} {f1 z1 z2 z3 tm : Tok} {z c : Int}
    (hnd : AllApart [sn, ds, T1]) (hz0 : 0 ≤ z) (hc0 : 0 ≤ c) (hz1 : z < 100) (hc1 : c < 100) :
    Spec prog w 8 215 [.ref sn, .int 3 tm] [(sn, instObj 225 ds), (ds, seenD w f1 (.ref T1)), (T1, MkTup [.int z z1, .int 0 z2, .int c z3])]
      (fun v A' => ∃ T1' z1' z2' z3' z' o' c', v = .none ∧ z' = z + 0 ∧ o' = 0 ∧ c' = c + 1 ∧ Aps T1' [sn, ds, T1] ∧
        A' = [(sn, instObj 225 ds), (ds, seenD w f1 (.ref T1')), (T1', MkTup [.int z' z1', .int o' z2', .int c' z3']), (T1, MkTup [.int z z1, .int 0 z2, .int c z3])]) :=
  packet_tells prog w sn ds T1 f1 z1 z2 z3 tm z c 3 true hnd rfl hz0 hc0 hz1 hc1
theorem packet_no {prog : Program} {w : World} {sn ds T1 : Addr} {f1 z1 z2 z3 tm : Tok} {z c : Int}
    (hnd : AllApart [sn, ds, T1]) (hz0 : 0 ≤ z) (hc0 : 0 ≤ c) (hz1 : z < 100) (hc1 : c < 100) :
    Spec prog w 8 215 [.ref sn, .int 2 tm] [(sn, instObj 225 ds), (ds, seenD w f1 (.ref T1)), (T1, MkTup [.int z z1, .int 0 z2, .int c z3])]
      (fun v A' => ∃ T1' z1' z2' z3' z' o' c', v = .none ∧ z' = z + 1 ∧ o' = 0 ∧ c' = c + 0 ∧ Aps T1' [sn, ds, T1] ∧
        A' = [(sn, instObj 225 ds), (ds, seenD w f1 (.ref T1')), (T1', MkTup [.int z' z1', .int o' z2', .int c' z3']), (T1, MkTup [.int z z1, .int 0 z2, .int c z3])]) :=
  packet_tells prog w sn ds T1 f1 z1 z2 z3 tm z c 2 false hnd rfl hz0 hc0 hz1 hc1
theorem told_spec {prog : Program} {w : World} {sn ds T1 : Addr} {f1 z1 z2 z3 : Tok} {z o c : Int}
    (hnd : AllApart [sn, ds, T1]) (hz0 : 0 ≤ z) (ho : o = 0) (hc0 : 0 ≤ c) (hzc : 0 < z + c) (hz1 : z < 100) (hc1 : c < 100) :
    Spec prog w 8 222 [.ref sn] [(sn, instObj 225 ds), (ds, seenD w f1 (.ref T1)), (T1, MkTup [.int z z1, .int o z2, .int c z3])]
      (fun v A' => v = .ref T1 ∧ A' = [(sn, instObj 225 ds), (ds, seenD w f1 (.ref T1)), (T1, MkTup [.int z z1, .int o z2, .int c z3])]) :=
  told_tells prog w sn ds T1 f1 z1 z2 z3 z o c hnd hz0 ho hc0 hzc hz1 hc1
theorem wsent_spec {prog : Program} {w : World} {way dw : Addr} {k1 k2 k3 k4 k5 k6 t1 t2 t5 t6 tz : Tok} {thr rec : Value} {d win size cr : Int}
    (hnd : AllApart [way, dw]) (hs0 : 0 ≤ size) (hs1 : size < 1000000) :
    Spec prog w 8 77 [.ref way, .int size tz] [(way, instObj 122 dw), (dw, wayD w k1 k2 k3 k4 k5 k6 (.int d t1) (.int win t2) thr rec (.int 0 t5) (.int cr t6))]
      (fun v A' => ∃ t5' f2, v = .none ∧ f2 = size ∧ A' = [(way, instObj 122 dw), (dw, wayD w k1 k2 k3 k4 k5 k6 (.int d t1) (.int win t2) thr rec (.int f2 t5') (.int cr t6))]) :=
  wsent_tells prog w way dw k1 k2 k3 k4 k5 k6 t1 t2 t5 t6 tz thr rec d win size cr hnd hs0 hs1
theorem spec_mono {prog : Program} {w : World} {dn : Nat} {f : Addr} {args : List Value} {A : List (Addr × Obj)} {P P' : Value → List (Addr × Obj) → Prop} (S : Spec prog w dn f args A P) (h : ∀ v A', P v A' → P' v A') : Spec prog w dn f args A P' :=
  fun _ _ _ _ _ _ _ _ _ _ _ _ _ _ _ _ _ _ _ _ _ _ _ B F X N NR o T hk hd hu ret => S _ _ _ _ _ _ _ _ _ _ _ _ _ _ _ _ _ _ _ _ _ _ _ B F X N NR o T hk hd hu fun v A' h' tk' hP => ret v A' h' tk' (h v A' hP)
theorem may_yes {prog : Program} {w : World} {way dw : Addr} {k1 k2 k3 k4 k5 k6 t1 t2 t5 t6 tz : Tok} {thr rec : Value} {d win size cr : Int}
    (hnd : AllApart [way, dw]) (hs0 : 0 ≤ size) (hs1 : size < 1000000) (hw1 : win < 1000000) (hb : size ≤ win) :
    Spec prog w 8 56 [.ref way, .int size tz] [(way, instObj 122 dw), (dw, wayD w k1 k2 k3 k4 k5 k6 (.int d t1) (.int win t2) thr rec (.int 0 t5) (.int cr t6))]
      (fun v A' => v = .bool true ∧ A' = [(way, instObj 122 dw), (dw, wayD w k1 k2 k3 k4 k5 k6 (.int d t1) (.int win t2) thr rec (.int 0 t5) (.int cr t6))]) :=
  spec_mono (may_tells prog w way dw k1 k2 k3 k4 k5 k6 t1 t2 t5 t6 tz thr rec d win size cr hnd hs0 hs1 hw1) fun v A' ⟨_, hv, e, hA⟩ => ⟨by rw [hv, e, decide_eq_true hb], hA⟩
theorem may_no {prog : Program} {w : World} {way dw : Addr} {k1 k2 k3 k4 k5 k6 t1 t2 t5 t6 tz : Tok} {thr rec : Value} {d win size cr : Int}
    (hnd : AllApart [way, dw]) (hs0 : 0 ≤ size) (hs1 : size < 1000000) (hw1 : win < 1000000) (hb : win < size) :
    Spec prog w 8 56 [.ref way, .int size tz] [(way, instObj 122 dw), (dw, wayD w k1 k2 k3 k4 k5 k6 (.int d t1) (.int win t2) thr rec (.int 0 t5) (.int cr t6))]
      (fun v A' => v = .bool false ∧ A' = [(way, instObj 122 dw), (dw, wayD w k1 k2 k3 k4 k5 k6 (.int d t1) (.int win t2) thr rec (.int 0 t5) (.int cr t6))]) :=
  spec_mono (may_tells prog w way dw k1 k2 k3 k4 k5 k6 t1 t2 t5 t6 tz thr rec d win size cr hnd hs0 hs1 hw1) fun v A' ⟨_, hv, e, hA⟩ => ⟨by rw [hv, e, decide_eq_false (by omega)], hA⟩
theorem fit_C {prog : Program} {w : World} {Tb Ta Tk Ts : Addr} {z1 z2 z3 u1 u2 u3 q1 q2 y1 y2 : Tok} {z c z' c' a b n1 : Int}
    (hnd : AllApart [Tb, Ta, Tk, Ts]) (ha : a = 1) (hb : b = 0)
    (hz : z ≤ z') (hc : c ≤ c') (hs : z' + c' = n1) (hs1 : z' + c' = z + c + 1) (hz0 : 0 ≤ z) (hc0 : 0 ≤ c) (hn1 : n1 < 100) :
    SpecC prog w 8 131 [.ref Tb, .ref Ta, .ref Tk, .ref Ts]
      [(Tb, MkTup [.int z z1, .int 0 z2, .int c z3]), (Ta, MkTup [.int z' u1, .int 0 u2, .int c' u3]), (Tk, MkTup [.int a q1, .int b q2]), (Ts, MkTup [.int n1 y1, .int 0 y2])]
      (fun K => K (.bool true) [(Tb, MkTup [.int z z1, .int 0 z2, .int c z3]), (Ta, MkTup [.int z' u1, .int 0 u2, .int c' u3]), (Tk, MkTup [.int a q1, .int b q2]), (Ts, MkTup [.int n1 y1, .int 0 y2])]) := by
  refine ⟨_, fit_spec hnd ha hb hz hc hs hs1 hz0 hc0 hn1, ?_⟩
  rintro _ _ K ⟨rfl, rfl⟩ k
  exact k
theorem packet_yes_C {prog : Program} {w : World} {sn ds T1 : Addr} {f1 z1 z2 z3 tm : Tok} {z c : Int}
    (hnd : AllApart [sn, ds, T1]) (hz0 : 0 ≤ z) (hc0 : 0 ≤ c) (hz1 : z < 100) (hc1 : c < 100) :
    SpecC prog w 8 215 [.ref sn, .int 3 tm] [(sn, instObj 225 ds), (ds, seenD w f1 (.ref T1)), (T1, MkTup [.int z z1, .int 0 z2, .int c z3])]
      (fun K => ∀ T1' z1' z2' z3' z' o' c', z' = z + 0 → o' = 0 → c' = c + 1 → Aps T1' [sn, ds, T1] → K (.none) [(sn, instObj 225 ds), (ds, seenD w f1 (.ref T1')), (T1', MkTup [.int z' z1', .int o' z2', .int c' z3']), (T1, MkTup [.int z z1, .int 0 z2, .int c z3])]) := by
  refine ⟨_, packet_yes hnd hz0 hc0 hz1 hc1, ?_⟩
  rintro _ _ K ⟨T1', z1', z2', z3', z', o', c', rfl, h0, h1, h2, h3, rfl⟩ k
  exact k T1' z1' z2' z3' z' o' c' h0 h1 h2 h3
theorem packet_no_C {prog : Program} {w : World} {sn ds T1 : Addr} {f1 z1 z2 z3 tm : Tok} {z c : Int}
    (hnd : AllApart [sn, ds, T1]) (hz0 : 0 ≤ z) (hc0 : 0 ≤ c) (hz1 : z < 100) (hc1 : c < 100) :
    SpecC prog w 8 215 [.ref sn, .int 2 tm] [(sn, instObj 225 ds), (ds, seenD w f1 (.ref T1)), (T1, MkTup [.int z z1, .int 0 z2, .int c z3])]
      (fun K => ∀ T1' z1' z2' z3' z' o' c', z' = z + 1 → o' = 0 → c' = c + 0 → Aps T1' [sn, ds, T1] → K (.none) [(sn, instObj 225 ds), (ds, seenD w f1 (.ref T1')), (T1', MkTup [.int z' z1', .int o' z2', .int c' z3']), (T1, MkTup [.int z z1, .int 0 z2, .int c z3])]) := by
  refine ⟨_, packet_no hnd hz0 hc0 hz1 hc1, ?_⟩
  rintro _ _ K ⟨T1', z1', z2', z3', z', o', c', rfl, h0, h1, h2, h3, rfl⟩ k
  exact k T1' z1' z2' z3' z' o' c' h0 h1 h2 h3
theorem told_C {prog : Program} {w : World} {sn ds T1 : Addr} {f1 z1 z2 z3 : Tok} {z o c : Int}
    (hnd : AllApart [sn, ds, T1]) (hz0 : 0 ≤ z) (ho : o = 0) (hc0 : 0 ≤ c) (hzc : 0 < z + c) (hz1 : z < 100) (hc1 : c < 100) :
    SpecC prog w 8 222 [.ref sn] [(sn, instObj 225 ds), (ds, seenD w f1 (.ref T1)), (T1, MkTup [.int z z1, .int o z2, .int c z3])]
      (fun K => K (.ref T1) [(sn, instObj 225 ds), (ds, seenD w f1 (.ref T1)), (T1, MkTup [.int z z1, .int o z2, .int c z3])]) := by
  refine ⟨_, told_spec hnd hz0 ho hc0 hzc hz1 hc1, ?_⟩
  rintro _ _ K ⟨rfl, rfl⟩ k
  exact k
theorem wsent_C {prog : Program} {w : World} {way dw : Addr} {k1 k2 k3 k4 k5 k6 t1 t2 t5 t6 tz : Tok} {thr rec : Value} {d win size cr : Int}
    (hnd : AllApart [way, dw]) (hs0 : 0 ≤ size) (hs1 : size < 1000000) :
    SpecC prog w 8 77 [.ref way, .int size tz] [(way, instObj 122 dw), (dw, wayD w k1 k2 k3 k4 k5 k6 (.int d t1) (.int win t2) thr rec (.int 0 t5) (.int cr t6))]
      (fun K => ∀ t5' f2, f2 = size → K (.none) [(way, instObj 122 dw), (dw, wayD w k1 k2 k3 k4 k5 k6 (.int d t1) (.int win t2) thr rec (.int f2 t5') (.int cr t6))]) := by
  refine ⟨_, wsent_spec hnd hs0 hs1, ?_⟩
  rintro _ _ K ⟨t5', f2, rfl, h0, rfl⟩ k
  exact k t5' f2 h0
theorem may_yes_C {prog : Program} {w : World} {way dw : Addr} {k1 k2 k3 k4 k5 k6 t1 t2 t5 t6 tz : Tok} {thr rec : Value} {d win size cr : Int}
    (hnd : AllApart [way, dw]) (hs0 : 0 ≤ size) (hs1 : size < 1000000) (hw1 : win < 1000000) (hb : size ≤ win) :
    SpecC prog w 8 56 [.ref way, .int size tz] [(way, instObj 122 dw), (dw, wayD w k1 k2 k3 k4 k5 k6 (.int d t1) (.int win t2) thr rec (.int 0 t5) (.int cr t6))]
      (fun K => K (.bool true) [(way, instObj 122 dw), (dw, wayD w k1 k2 k3 k4 k5 k6 (.int d t1) (.int win t2) thr rec (.int 0 t5) (.int cr t6))]) := by
  refine ⟨_, may_yes hnd hs0 hs1 hw1 hb, ?_⟩
  rintro _ _ K ⟨rfl, rfl⟩ k
  exact k
theorem may_no_C {prog : Program} {w : World} {way dw : Addr} {k1 k2 k3 k4 k5 k6 t1 t2 t5 t6 tz : Tok} {thr rec : Value} {d win size cr : Int}
    (hnd : AllApart [way, dw]) (hs0 : 0 ≤ size) (hs1 : size < 1000000) (hw1 : win < 1000000) (hb : win < size) :
    SpecC prog w 8 56 [.ref way, .int size tz] [(way, instObj 122 dw), (dw, wayD w k1 k2 k3 k4 k5 k6 (.int d t1) (.int win t2) thr rec (.int 0 t5) (.int cr t6))]
      (fun K => K (.bool false) [(way, instObj 122 dw), (dw, wayD w k1 k2 k3 k4 k5 k6 (.int d t1) (.int win t2) thr rec (.int 0 t5) (.int cr t6))]) := by
  refine ⟨_, may_no hnd hs0 hs1 hw1 hb, ?_⟩
  rintro _ _ K ⟨rfl, rfl⟩ k
  exact k
end

/- Subs -/
section
set_option maxHeartbeats 16000000 in
theorem mark_two (prog : Program) (w : World) (mk dm sd cd : Addr) (e1 e2 e3 e4 e5 e6 x1 x2 x3 x4 : Tok) (tr : Int) (st : Str) (hst : st = "testing" ∨ st = "good") (hnd : AllApart [mk, dm]) :
    Spec prog w 8 152 [.ref mk] [(mk, instObj 190 dm), (dm, ecnD w e1 e2 e3 e4 e5 e6 (.int 1 x1) (.str st x2) (.int tr x3) (.int 0 x4) (.ref sd) (.ref cd))]
      (fun v A' => ∃ t, v = .int 2 t ∧ A' = [(mk, instObj 190 dm), (dm, ecnD w e1 e2 e3 e4 e5 e6 (.int 1 x1) (.str st x2) (.int tr x3) (.int 0 x4) (.ref sd) (.ref cd))]) := by
  simp only [AllApart] at hnd
  obtain ⟨_, _, _⟩ := hnd
  rcases hst with rfl | rfl
  all_goals (
    intro p loose mean mg mb dp un gd cn cs a ccd lc outer A₀ base h₀ L m s Q E rest B F X N NR hoff T hk hdp hun hret
    have hMk : KstMark := kstMark
    refine wpAny_call ?_
    tb_start
    k_steps
    (all_goals (try k_data)))
  all_goals (
    rename News h₀ L _ (_ :: _) => kN
    rename ∀ q ∈ rest, Heap.get? _ _ = some _ => hg
    refine' hret _ [(mk, _), (dm, ecnD w e1 e2 e3 e4 e5 e6 (.int 1 x1) (.str _ x2) (.int tr x3) (.int 0 x4) (.ref sd) (.ref cd))] _ _ ⟨_, rfl, rfl⟩ (by k_asm) (kst_newsOf kN ?hs) (by k_asm) (news_off (all := _) ?hn ?ho hg)
    case hs => lcg_sub
    case hn => k_asm
    case ho => lcg_sub)
set_option maxHeartbeats 16000000 in
theorem sent_first (prog : Program) (w : World) (mk dm sd cd : Addr) (osd : Obj) (e1 e2 e3 e4 e5 e6 x1 x2 x3 x4 y1 y2 ta tm : Tok) (tr : Int)
    (hsd : osd.IsDictOf (strKind prog w) []) (los : (sd == sysModules) = false) (hnd : AllApart [mk, dm, sd]) (htr : 0 ≤ tr) (htr1 : tr < 100) :
    Spec prog w 8 173 [.ref mk, .str "application" ta, .int 2 tm] [(mk, instObj 190 dm), (dm, ecnD w e1 e2 e3 e4 e5 e6 (.int 1 x1) (.str "testing" x2) (.int tr x3) (.int 0 x4) (.ref sd) (.ref cd)), (sd, osd)]
      (fun v A' => ∃ x2' x3' T2' osd' y1' y2' r n' o', v = .none ∧ osd'.IsDictOf (strKind prog w) [("application", .ref T2')] ∧ r = tr + 1 ∧ n' = 0 + 1 ∧ o' = 0 ∧ Aps T2' [mk, dm, sd] ∧
        A' = [(mk, instObj 190 dm), (dm, ecnD w e1 e2 e3 e4 e5 e6 (.int 1 x1) (.str "waiting" x2') (.int r x3') (.int 0 x4) (.ref sd) (.ref cd)), (sd, osd'), (T2', MkTup [.int n' y1', .int o' y2'])]) := by
  intro p loose mean mg mb dp un gd cn cs a ccd lc outer A₀ base h₀ L m s Q E rest B F X N NR hoff T hk hdp hun hret
  have hMk : KstMark := kstMark
  simp only [AllApart] at hnd
  obtain ⟨_, _, _, _⟩ := hnd
  have hq2 : (if (([2, 1] : List Int).any fun x => x == 2) = true then (1 : Int) else 0) = 1 := by decide
  refine wpAny_call ?_
  tb_start
  k_steps
  (all_goals (try k_data))
  all_goals (
    rename News h₀ L _ (_ :: _) => kN
    rename ∀ q ∈ rest, Heap.get? _ _ = some _ => hg
    refine' hret _ [(mk, _), (dm, ecnD w e1 e2 e3 e4 e5 e6 (.int 1 x1) (.str "waiting" _) (.int _ _) (.int 0 x4) (.ref sd) (.ref cd)), (sd, _), (_, MkTup [.int _ _, .int _ _])] _ _ ⟨_, _, _, _, _, _, _, _, _, rfl, ?hd, ?h1, ?h2, ?h3, ?h4, rfl⟩ (by k_asm) (kst_newsOf kN ?hs) (by k_asm) (news_off (all := _) ?hn ?ho hg)
    case hd => with_unfolding_all assumption
    case hs => lcg_sub
    case hn => k_asm
    case ho => lcg_sub
    case h1 => first | rfl | simp
    case h2 => first | rfl | simp
    case h3 => first | rfl | simp
    case h4 => exact ⟨⟨by k_ne⟩, ⟨by k_ne⟩, ⟨by k_ne⟩, trivial⟩)
set_option maxHeartbeats 16000000 in
theorem sent_later (prog : Program) (w : World) (mk dm sd cd T2 : Addr) (osd : Obj) (e1 e2 e3 e4 e5 e6 x1 x2 x3 x4 y1 y2 ta tm : Tok) (tr n : Int)
    (hsd : osd.IsDictOf (strKind prog w) [("application", .ref T2)]) (los : (sd == sysModules) = false) (hnd : AllApart [mk, dm, sd, T2]) (htr : 0 ≤ tr) (htr1 : tr < 100) (hn : 0 ≤ n) (hn1 : n < 100) :
    Spec prog w 8 173 [.ref mk, .str "application" ta, .int 2 tm] [(mk, instObj 190 dm), (dm, ecnD w e1 e2 e3 e4 e5 e6 (.int 1 x1) (.str "good" x2) (.int tr x3) (.int 0 x4) (.ref sd) (.ref cd)), (sd, osd), (T2, MkTup [.int n y1, .int 0 y2])]
      (fun v A' => ∃ x2' x3' T2' osd' y1' y2' r n' o', v = .none ∧ osd'.IsDictOf (strKind prog w) [("application", .ref T2')] ∧ r = tr + 1 ∧ n' = n + 1 ∧ o' = 0 ∧ Aps T2' [mk, dm, sd] ∧
        A' = [(mk, instObj 190 dm), (dm, ecnD w e1 e2 e3 e4 e5 e6 (.int 1 x1) (.str "good" x2') (.int r x3') (.int 0 x4) (.ref sd) (.ref cd)), (sd, osd'), (T2', MkTup [.int n' y1', .int o' y2'])]) := by
  intro p loose mean mg mb dp un gd cn cs a ccd lc outer A₀ base h₀ L m s Q E rest B F X N NR hoff T hk hdp hun hret
  have hMk : KstMark := kstMark
  simp only [AllApart] at hnd
  obtain ⟨_, _, _, _, _⟩ := hnd
  refine wpAny_call ?_
  tb_start
  k_steps
  (all_goals (try k_data))
  all_goals (
    rename News h₀ L _ (_ :: _) => kN
    rename ∀ q ∈ rest, Heap.get? _ _ = some _ => hg
    refine' hret _ [(mk, _), (dm, ecnD w e1 e2 e3 e4 e5 e6 (.int 1 x1) (.str "good" _) (.int _ _) (.int 0 x4) (.ref sd) (.ref cd)), (sd, _), (_, MkTup [.int _ _, .int _ _])] _ _ ⟨_, _, _, _, _, _, _, _, _, rfl, ?hd, ?h1, ?h2, ?h3, ?h4, rfl⟩ (by k_asm) (kst_newsOf kN ?hs) (by k_asm) (news_off (all := _) ?hn ?ho hg)
    case hd => with_unfolding_all assumption
    case hs => lcg_sub
    case hn => k_asm
    case ho => lcg_sub
    case h1 => first | rfl | simp
    case h2 => first | rfl | simp
    case h3 => first | rfl | simp
    case h4 => exact ⟨⟨by k_ne⟩, ⟨by k_ne⟩, ⟨by k_ne⟩, trivial⟩)
local macro_rules | `(tactic| walk_at "call ref") => `(tactic| (k_here; (with_reducible show wpAny _ _ (call (Value.ref 131) _) _ _ _); k_dflt (refine' spec_useC ?B ?F ?X ?N ?T ?hk ?P (fit_C ?s1 ?s2 ?s3 ?s4 ?s5 ?s6 ?s7 ?s8 ?s9 ?s10) ?off ?dp ?un ?_; (case B | F | X | N | T => k_asm); (case hk => exact rfl); (case P => kd_all); (case s1 => kd_subs); (case s2 | s3 | s4 | s5 | s6 | s7 | s8 | s9 | s10 => first | rfl | omega); (case off => kd_facts1); (case dp => ktr_room); (case un => ktr_units); k_whole); intro h' tk' F' N' off'; clear off'; (try simp only [List.cons_append, List.nil_append] at N'); (try dsimp only); (try k_sweep)))
set_option maxHeartbeats 16000000 in
theorem ack_first (prog : Program) (w : World)
    (mk dm sd cd T2 T1' l : Addr) (osd ocd : Obj) (nl : Nat)
    (e1 e2 e3 e4 e5 e6 x1 x2 x3 x4 y1 y2 u1 u2 u3 ta tm : Tok) 
    (tr n1 z' c' : Int) 
    (hsd : osd.IsDictOf (strKind prog w) [("application", .ref T2)]) (los : (sd == sysModules) = false)
    (hcd : ocd.IsDictOf (strKind prog w) []) (loc : (cd == sysModules) = false)
    (hnd : AllApart [mk, dm, sd, cd, T2, T1', l])
    (hs : z' + c' = n1) (hs1 : n1 = 1) (hz0 : 0 ≤ z') (hc0 : 0 ≤ c') :
    Spec prog w 12 187 [.ref mk, .str "application" ta, .ref T1', .ref l, .bool true]
      [(mk, instObj 190 dm), (dm, ecnD w e1 e2 e3 e4 e5 e6 (.int 1 x1) (.str "waiting" x2) (.int tr x3) (.int 0 x4) (.ref sd) (.ref cd)), (sd, osd), (T2, MkTup [.int n1 y1, .int 0 y2]), (cd, ocd),
        (T1', MkTup [.int z' u1, .int 0 u2, .int c' u3]), (l, listOf #[.int 2 tm] nl)]
      (fun v A' => ∃ t x2' ocd', (∃ r, r = c' ∧ v = .int r t) ∧ ocd'.IsDictOf (strKind prog w) [("application", .ref T1')] ∧
        A' = [(mk, instObj 190 dm), (dm, ecnD w e1 e2 e3 e4 e5 e6 (.int 1 x1) (.str "good" x2') (.int tr x3) (.int 0 x4) (.ref sd) (.ref cd)), (sd, osd), (T2, MkTup [.int n1 y1, .int 0 y2]), (cd, ocd'),
          (T1', MkTup [.int z' u1, .int 0 u2, .int c' u3])]) := by
  intro p loose mean mg mb dp un gd cn cs a ccd lc outer A₀ base h₀ L m s Q E rest B F X N NR hoff T hk hdp hun hret
  have hMk : KstMark := kstMark
  simp only [AllApart] at hnd
  obtain ⟨_, _, _, _, _, _, _⟩ := hnd
  have hq1 : List.count (2 : Int) [2] = 1 := by decide
  have hq0 : List.count (1 : Int) [2] = 0 := by decide
  refine wpAny_call ?_
  tb_start
  k_steps
  (all_goals (try k_data))
  all_goals (
    rename News h₀ L _ (_ :: _) => kN
    rename ∀ q ∈ rest, Heap.get? _ _ = some _ => hg
    refine' hret _ [(mk, _), (dm, ecnD w e1 e2 e3 e4 e5 e6 (.int 1 x1) (.str "good" _) (.int tr x3) (.int 0 x4) (.ref sd) (.ref cd)), (sd, osd), (T2, _), (cd, _), (T1', _)] _ _ ⟨_, _, _, ⟨_, ?hr, rfl⟩, ?hd, rfl⟩ (by k_asm) (kst_newsOf kN ?hs) (by k_asm) (news_off (all := _) ?hn ?ho hg)
    case hs => lcg_sub
    case hn => k_asm
    case ho => lcg_sub
    case hr => omega
    case hd => with_unfolding_all assumption)
set_option maxHeartbeats 16000000 in
theorem ack_later (prog : Program) (w : World)
    (mk dm sd cd T1 T2 T1' l : Addr) (osd ocd : Obj) (nl : Nat)
    (e1 e2 e3 e4 e5 e6 x1 x2 x3 x4 y1 y2 z1 z2 z3 u1 u2 u3 ta tm : Tok) 
    (tr n1 z c z' c' : Int) 
    (hsd : osd.IsDictOf (strKind prog w) [("application", .ref T2)]) (los : (sd == sysModules) = false)
    (hcd : ocd.IsDictOf (strKind prog w) [("application", .ref T1)]) (loc : (cd == sysModules) = false)
    (hnd : AllApart [mk, dm, sd, cd, T1, T2, T1', l])
    (hz : z ≤ z') (hc : c ≤ c') (hs : z' + c' = n1) (hs1 : z' + c' = z + c + 1) (hz0 : 0 ≤ z) (hc0 : 0 ≤ c) (hn1 : n1 < 100) :
    Spec prog w 12 187 [.ref mk, .str "application" ta, .ref T1', .ref l, .bool true]
      [(mk, instObj 190 dm), (dm, ecnD w e1 e2 e3 e4 e5 e6 (.int 1 x1) (.str "good" x2) (.int tr x3) (.int 0 x4) (.ref sd) (.ref cd)), (sd, osd), (T2, MkTup [.int n1 y1, .int 0 y2]), (cd, ocd),
        (T1, MkTup [.int z z1, .int 0 z2, .int c z3]), (T1', MkTup [.int z' u1, .int 0 u2, .int c' u3]), (l, listOf #[.int 2 tm] nl)]
      (fun v A' => ∃ t x2' ocd', v = .int (c' - c) t ∧ ocd'.IsDictOf (strKind prog w) [("application", .ref T1')] ∧
        A' = [(mk, instObj 190 dm), (dm, ecnD w e1 e2 e3 e4 e5 e6 (.int 1 x1) (.str "good" x2') (.int tr x3) (.int 0 x4) (.ref sd) (.ref cd)), (sd, osd), (T2, MkTup [.int n1 y1, .int 0 y2]), (cd, ocd'),
          (T1', MkTup [.int z' u1, .int 0 u2, .int c' u3])]) := by
  intro p loose mean mg mb dp un gd cn cs a ccd lc outer A₀ base h₀ L m s Q E rest B F X N NR hoff T hk hdp hun hret
  have hMk : KstMark := kstMark
  simp only [AllApart] at hnd
  obtain ⟨_, _, _, _, _, _, _, _⟩ := hnd
  have hq1 : List.count (2 : Int) [2] = 1 := by decide
  have hq0 : List.count (1 : Int) [2] = 0 := by decide
  refine wpAny_call ?_
  tb_start
  k_steps
  (all_goals (try k_data))
  all_goals (
    rename News h₀ L _ (_ :: _) => kN
    rename ∀ q ∈ rest, Heap.get? _ _ = some _ => hg
    refine' hret _ [(mk, _), (dm, ecnD w e1 e2 e3 e4 e5 e6 (.int 1 x1) (.str "good" _) (.int tr x3) (.int 0 x4) (.ref sd) (.ref cd)), (sd, osd), (T2, _), (cd, _), (T1', _)] _ _ ⟨_, _, _, rfl, ?hd, rfl⟩ (by k_asm) (kst_newsOf kN ?hs) (by k_asm) (news_off (all := _) ?hn ?ho hg)
    case hs => lcg_sub
    case hn => k_asm
    case ho => lcg_sub
    case hd => with_unfolding_all assumption)
theorem half_is (win d : Int) : (if 2 * d > (win * 1).fdiv 2 then 2 * d else (win * 1).fdiv 2) = max (win / 2) (2 * d) := by
  rw [Int.mul_one, Int.fdiv_eq_ediv_of_nonneg _ (by omega)]
  split <;> omega
set_option maxHeartbeats 16000000 in
theorem cong_unmet (prog : Program) (w : World) (way dw : Addr) (k1 k2 k3 k4 k5 k6 t1 t2 t5 t6 tn tm : Tok) (thr : Value) (d win fl cr now : Int)
    (hnd : AllApart [way, dw]) (hd0 : 10 ≤ d) (hd1 : d < 50) (hw0 : 2 * d ≤ win) (hw1 : win < 1000000) (hn0 : 0 ≤ now) (hn1 : now < 100)  :
    Spec prog w 8 105 [.ref way, .int now tn, .int (now + 1) tm] [(way, instObj 122 dw), (dw, wayD w k1 k2 k3 k4 k5 k6 (.int d t1) (.int win t2) thr .none (.int fl t5) (.int cr t6))]
      (fun v A' => ∃ t2' t3' t4' t6' w2 r', v = .none ∧ w2 = max (win / 2) (2 * d) ∧ r' = now + 1 ∧
        A' = [(way, instObj 122 dw), (dw, wayD w k1 k2 k3 k4 k5 k6 (.int d t1) (.int w2 t2') (.int w2 t3') (.int r' t4') (.int fl t5) (.int 0 t6'))]) := by
  intro p loose mean mg mb dp un gd cn cs a ccd lc outer A₀ base h₀ L m s Q E rest B F X N NR hoff T hk hdp hun hret
  have hMk : KstMark := kstMark
  simp only [AllApart] at hnd
  obtain ⟨_, _, _⟩ := hnd
  refine wpAny_call ?_
  tb_start
  k_steps
  (all_goals (try k_data))
  all_goals (
    rename News h₀ L _ (_ :: _) => kN
    rename ∀ q ∈ rest, Heap.get? _ _ = some _ => hg
    refine' hret _ [(way, _), (dw, wayD w k1 k2 k3 k4 k5 k6 (.int d t1) (.int _ _) (.int _ _) (.int _ _) (.int fl t5) (.int 0 _))] _ _ ⟨_, _, _, _, _, _, rfl, ?h1, ?h2, rfl⟩ (by k_asm) (kst_newsOf kN ?hs) (by k_asm) (news_off (all := _) ?hn ?ho hg)
    case hs => lcg_sub
    case hn => k_asm
    case ho => lcg_sub
    case h1 => exact half_is win d
    case h2 => rfl)
set_option maxHeartbeats 16000000 in
theorem cong_met (prog : Program) (w : World) (way dw : Addr) (k1 k2 k3 k4 k5 k6 t1 t2 t5 t6 tn tm r1 : Tok) (thr : Value) (d win fl cr now r : Int)
    (hnd : AllApart [way, dw]) (hd0 : 10 ≤ d) (hd1 : d < 50) (hw0 : 2 * d ≤ win) (hw1 : win < 1000000) (hn0 : 0 ≤ now) (hn1 : now < 100) (hr : r < now) :
    Spec prog w 8 105 [.ref way, .int now tn, .int (now + 1) tm] [(way, instObj 122 dw), (dw, wayD w k1 k2 k3 k4 k5 k6 (.int d t1) (.int win t2) thr (.int r r1) (.int fl t5) (.int cr t6))]
      (fun v A' => ∃ t2' t3' t4' t6' w2 r', v = .none ∧ w2 = max (win / 2) (2 * d) ∧ r' = now + 1 ∧
        A' = [(way, instObj 122 dw), (dw, wayD w k1 k2 k3 k4 k5 k6 (.int d t1) (.int w2 t2') (.int w2 t3') (.int r' t4') (.int fl t5) (.int 0 t6'))]) := by
  intro p loose mean mg mb dp un gd cn cs a ccd lc outer A₀ base h₀ L m s Q E rest B F X N NR hoff T hk hdp hun hret
  have hMk : KstMark := kstMark
  simp only [AllApart] at hnd
  obtain ⟨_, _, _⟩ := hnd
  refine wpAny_call ?_
  tb_start
  k_steps
  (all_goals (try k_data))
  all_goals (
    rename News h₀ L _ (_ :: _) => kN
    rename ∀ q ∈ rest, Heap.get? _ _ = some _ => hg
    refine' hret _ [(way, _), (dw, wayD w k1 k2 k3 k4 k5 k6 (.int d t1) (.int _ _) (.int _ _) (.int _ _) (.int fl t5) (.int 0 _))] _ _ ⟨_, _, _, _, _, _, rfl, ?h1, ?h2, rfl⟩ (by k_asm) (kst_newsOf kN ?hs) (by k_asm) (news_off (all := _) ?hn ?ho hg)
    case hs => lcg_sub
    case hn => k_asm
    case ho => lcg_sub
    case h1 => exact half_is win d
    case h2 => rfl)
theorem wide_q {d win : Int} (h : 0 < win) : (0 + d * win).fdiv win = d := by
  rw [Int.zero_add]; exact Int.mul_fdiv_cancel _ (by omega)
theorem wide_win {d win : Int} (h : 0 < win) : win + (0 + d * win).fdiv win = win + d := by rw [wide_q h]
theorem wide_cr {d win : Int} (h : 0 < win) : 0 + d * win - (0 + d * win).fdiv win * win = 0 := by rw [wide_q h]; omega
set_option maxHeartbeats 16000000 in
theorem acked_rec (prog : Program) (w : World) (way dw : Addr) (k1 k2 k3 k4 k5 k6 t1 t2 t5 t6 tz tn tm to : Tok) (thr : Value) (d win size fl cr now now2 r : Int) (r1 : Tok)
    (hnd : AllApart [way, dw]) (hd0 : 10 ≤ d) (hd1 : d < 50) (hw0 : 2 * d ≤ win) (hw1 : win < 1000000) (hn0 : 0 ≤ now) (hn1 : now < 100) (hr : now ≤ r) :
    Spec prog w 8 91 [.ref way, .int size tz, .int now tn, .bool true, .int now2 tm, .int 0 to] [(way, instObj 122 dw), (dw, wayD w k1 k2 k3 k4 k5 k6 (.int d t1) (.int win t2) thr (.int r r1) (.int fl t5) (.int cr t6))]
      (fun v A' => ∃ t2' t5' t6' w2 f2 c2, v = .none ∧ w2 = win ∧ c2 = cr ∧ f2 = fl - size ∧
        A' = [(way, instObj 122 dw), (dw, wayD w k1 k2 k3 k4 k5 k6 (.int d t1) (.int w2 t2') thr (.int r r1) (.int f2 t5') (.int c2 t6'))]) := by
  intro p loose mean mg mb dp un gd cn cs a ccd lc outer A₀ base h₀ L m s Q E rest B F X N NR hoff T hk hdp hun hret
  have hMk : KstMark := kstMark
  simp only [AllApart] at hnd
  obtain ⟨_, _, _⟩ := hnd
  refine wpAny_call ?_
  tb_start
  k_steps
  (all_goals (try k_data))
  all_goals (
    rename News h₀ L _ (_ :: _) => kN
    rename ∀ q ∈ rest, Heap.get? _ _ = some _ => hg
    refine' hret _ [(way, _), (dw, wayD w k1 k2 k3 k4 k5 k6 (.int d t1) (.int _ _) thr (.int r r1) (.int _ _) (.int _ _))] _ _ ⟨_, _, _, _, _, _, rfl, ?h1, ?h2, ?h3, rfl⟩ (by k_asm) (kst_newsOf kN ?hs) (by k_asm) (news_off (all := _) ?hn ?ho hg)
    case hs => lcg_sub
    case hn => k_asm
    case ho => lcg_sub
    case h1 => rfl
    case h2 => rfl
    case h3 => rfl)
set_option maxHeartbeats 16000000 in
theorem acked_slow (prog : Program) (w : World) (way dw : Addr) (k1 k2 k3 k4 k5 k6 t1 t2 t5 t6 tz tn tm to : Tok) (d win size fl cr now now2 : Int)
    (hnd : AllApart [way, dw]) (hd0 : 10 ≤ d) (hd1 : d < 50) (hw0 : 2 * d ≤ win) (hw1 : win < 1000000) (hn0 : 0 ≤ now) (hn1 : now < 100)  :
    Spec prog w 8 91 [.ref way, .int size tz, .int now tn, .bool true, .int now2 tm, .int 0 to] [(way, instObj 122 dw), (dw, wayD w k1 k2 k3 k4 k5 k6 (.int d t1) (.int win t2) .none .none (.int fl t5) (.int cr t6))]
      (fun v A' => ∃ t2' t5' t6' w2 f2 c2, v = .none ∧ w2 = win + size ∧ c2 = cr ∧ f2 = fl - size ∧
        A' = [(way, instObj 122 dw), (dw, wayD w k1 k2 k3 k4 k5 k6 (.int d t1) (.int w2 t2') .none .none (.int f2 t5') (.int c2 t6'))]) := by
  intro p loose mean mg mb dp un gd cn cs a ccd lc outer A₀ base h₀ L m s Q E rest B F X N NR hoff T hk hdp hun hret
  have hMk : KstMark := kstMark
  simp only [AllApart] at hnd
  obtain ⟨_, _, _⟩ := hnd
  refine wpAny_call ?_
  tb_start
  k_steps
  (all_goals (try k_data))
  all_goals (
    rename News h₀ L _ (_ :: _) => kN
    rename ∀ q ∈ rest, Heap.get? _ _ = some _ => hg
    refine' hret _ [(way, _), (dw, wayD w k1 k2 k3 k4 k5 k6 (.int d t1) (.int _ _) .none .none (.int _ _) (.int _ _))] _ _ ⟨_, _, _, _, _, _, rfl, ?h1, ?h2, ?h3, rfl⟩ (by k_asm) (kst_newsOf kN ?hs) (by k_asm) (news_off (all := _) ?hn ?ho hg)
    case hs => lcg_sub
    case hn => k_asm
    case ho => lcg_sub
    case h1 => rfl
    case h2 => rfl
    case h3 => rfl)
set_option maxHeartbeats 16000000 in
theorem acked_wide (prog : Program) (w : World) (way dw : Addr) (k1 k2 k3 k4 k5 k6 t1 t2 t5 t6 tz tn tm to : Tok) (d win size fl cr now now2 r th : Int) (r1 u1 : Tok)
    (hnd : AllApart [way, dw]) (hd0 : 10 ≤ d) (hd1 : d < 50) (hw0 : 2 * d ≤ win) (hw1 : win < 1000000) (hn0 : 0 ≤ now) (hn1 : now < 100) (hr : r < now) (hth : th ≤ win) :
    Spec prog w 8 91 [.ref way, .int win tz, .int now tn, .bool true, .int now2 tm, .int 0 to] [(way, instObj 122 dw), (dw, wayD w k1 k2 k3 k4 k5 k6 (.int d t1) (.int win t2) (.int th u1) (.int r r1) (.int fl t5) (.int 0 t6))]
      (fun v A' => ∃ t2' t5' t6' w2 f2 c2, v = .none ∧ w2 = win + d ∧ c2 = 0 ∧ f2 = fl - win ∧
        A' = [(way, instObj 122 dw), (dw, wayD w k1 k2 k3 k4 k5 k6 (.int d t1) (.int w2 t2') (.int th u1) (.int r r1) (.int f2 t5') (.int c2 t6'))]) := by
  intro p loose mean mg mb dp un gd cn cs a ccd lc outer A₀ base h₀ L m s Q E rest B F X N NR hoff T hk hdp hun hret
  have hMk : KstMark := kstMark
  simp only [AllApart] at hnd
  obtain ⟨_, _, _⟩ := hnd
  refine wpAny_call ?_
  tb_start
  k_steps
  (all_goals (try k_data))
  all_goals (
    rename News h₀ L _ (_ :: _) => kN
    rename ∀ q ∈ rest, Heap.get? _ _ = some _ => hg
    refine' hret _ [(way, _), (dw, wayD w k1 k2 k3 k4 k5 k6 (.int d t1) (.int _ _) (.int th u1) (.int r r1) (.int _ _) (.int _ _))] _ _ ⟨_, _, _, _, _, _, rfl, ?h1, ?h2, ?h3, rfl⟩ (by k_asm) (kst_newsOf kN ?hs) (by k_asm) (news_off (all := _) ?hn ?ho hg)
    case hs => lcg_sub
    case hn => k_asm
    case ho => lcg_sub
    case h1 => exact wide_win (by omega)
    case h2 => exact wide_cr (by omega)
    case h3 => rfl)

/-- the window's state: met congestion or not yet -/
inductive WaySt (now win : Int) : Value → Value → Bool → Prop
  | unmet : WaySt now win .none .none false
  | met {th r : Int} {u1 r1 : Tok} : th ≤ win → r < now → WaySt now win (.int th u1) (.int r r1) true

theorem cong_spec {prog : Program} {w : World} {way dw : Addr} {k1 k2 k3 k4 k5 k6 t1 t2 t5 t6 tn tm : Tok} {thr rec : Value} {met : Bool} {d win fl cr now : Int}
    (W : WaySt now win thr rec met) (hnd : AllApart [way, dw]) (hd0 : 10 ≤ d) (hd1 : d < 50) (hw0 : 2 * d ≤ win) (hw1 : win < 1000000) (hn0 : 0 ≤ now) (hn1 : now < 100) :
    Spec prog w 8 105 [.ref way, .int now tn, .int (now + 1) tm] [(way, instObj 122 dw), (dw, wayD w k1 k2 k3 k4 k5 k6 (.int d t1) (.int win t2) thr rec (.int fl t5) (.int cr t6))]
      (fun v A' => ∃ t2' t3' t4' t6' w2 r', v = .none ∧ w2 = max (win / 2) (2 * d) ∧ r' = now + 1 ∧
        A' = [(way, instObj 122 dw), (dw, wayD w k1 k2 k3 k4 k5 k6 (.int d t1) (.int w2 t2') (.int w2 t3') (.int r' t4') (.int fl t5) (.int 0 t6'))]) := by
  cases W with
  | unmet => exact cong_unmet prog w way dw k1 k2 k3 k4 k5 k6 t1 t2 t5 t6 tn tm _ d win fl cr now hnd hd0 hd1 hw0 hw1 hn0 hn1
  | met _ hr => exact cong_met prog w way dw k1 k2 k3 k4 k5 k6 t1 t2 t5 t6 tn tm _ _ d win fl cr now _ hnd hd0 hd1 hw0 hw1 hn0 hn1 hr

theorem acked_spec {prog : Program} {w : World} {way dw : Addr} {k1 k2 k3 k4 k5 k6 t1 t2 t5 t6 tz tn tm to : Tok} {thr rec : Value} {met : Bool} {d win fl now now2 : Int}
    (W : WaySt now win thr rec met) (hnd : AllApart [way, dw]) (hd0 : 10 ≤ d) (hd1 : d < 50) (hw0 : 2 * d ≤ win) (hw1 : win < 1000000) (hn0 : 0 ≤ now) (hn1 : now < 100) :
    Spec prog w 8 91 [.ref way, .int win tz, .int now tn, .bool true, .int now2 tm, .int 0 to] [(way, instObj 122 dw), (dw, wayD w k1 k2 k3 k4 k5 k6 (.int d t1) (.int win t2) thr rec (.int fl t5) (.int 0 t6))]
      (fun v A' => ∃ t2' t5' t6' w2 f2 c2, v = .none ∧ w2 = win + (if met then d else win) ∧ c2 = 0 ∧ f2 = fl - win ∧
        A' = [(way, instObj 122 dw), (dw, wayD w k1 k2 k3 k4 k5 k6 (.int d t1) (.int w2 t2') thr rec (.int f2 t5') (.int c2 t6'))]) := by
  cases W with
  | unmet => exact acked_slow prog w way dw k1 k2 k3 k4 k5 k6 t1 t2 t5 t6 tz tn tm to d win win fl 0 now now2 hnd hd0 hd1 hw0 hw1 hn0 hn1
  | met hth hr => exact acked_wide prog w way dw k1 k2 k3 k4 k5 k6 t1 t2 t5 t6 tz tn tm to d win 0 fl 0 now now2 _ _ _ _ hnd hd0 hd1 hw0 hw1 hn0 hn1 hr hth
theorem acked_in {prog : Program} {w : World} {way dw : Addr} {k1 k2 k3 k4 k5 k6 t1 t2 t5 t6 tz tn tm to : Tok} {thr : Value} {r1 : Tok} {d win size fl cr now now2 r : Int}
    (hr : now ≤ r) (hnd : AllApart [way, dw]) (hd0 : 10 ≤ d) (hd1 : d < 50) (hw0 : 2 * d ≤ win) (hw1 : win < 1000000) (hn0 : 0 ≤ now) (hn1 : now < 100) :
    Spec prog w 8 91 [.ref way, .int size tz, .int now tn, .bool true, .int now2 tm, .int 0 to] [(way, instObj 122 dw), (dw, wayD w k1 k2 k3 k4 k5 k6 (.int d t1) (.int win t2) thr (.int r r1) (.int fl t5) (.int cr t6))]
      (fun v A' => ∃ t2' t5' t6' w2 f2 c2, v = .none ∧ w2 = win ∧ c2 = cr ∧ f2 = fl - size ∧
        A' = [(way, instObj 122 dw), (dw, wayD w k1 k2 k3 k4 k5 k6 (.int d t1) (.int w2 t2') thr (.int r r1) (.int f2 t5') (.int c2 t6'))]) :=
  acked_rec prog w way dw k1 k2 k3 k4 k5 k6 t1 t2 t5 t6 tz tn tm to thr d win size fl cr now now2 r r1 hnd hd0 hd1 hw0 hw1 hn0 hn1 hr
end

/- Wraps -/
section
theorem Aps.both {a : Addr} : ∀ {l r : List Addr}, Aps a l → Aps a r → Aps a (l ++ r)
  | [], _, _, h => h
  | _ :: _, _, h, k => ⟨h.1, Aps.both h.2 k⟩

theorem mark_spec {prog : Program} {w : World} {mk dm sd cd : Addr} {e1 e2 e3 e4 e5 e6 x1 x2 x3 x4 : Tok} {tr : Int} {st : Str} (hst : st = "testing" ∨ st = "good") (hnd : AllApart [mk, dm]) :
    Spec prog w 8 152 [.ref mk] [(mk, instObj 190 dm), (dm, ecnD w e1 e2 e3 e4 e5 e6 (.int 1 x1) (.str st x2) (.int tr x3) (.int 0 x4) (.ref sd) (.ref cd))]
      (fun v A' => ∃ t, v = .int 2 t ∧ A' = [(mk, instObj 190 dm), (dm, ecnD w e1 e2 e3 e4 e5 e6 (.int 1 x1) (.str st x2) (.int tr x3) (.int 0 x4) (.ref sd) (.ref cd))]) :=
  mark_two prog w mk dm sd cd e1 e2 e3 e4 e5 e6 x1 x2 x3 x4 tr st hst hnd
theorem sentF_spec {prog : Program} {w : World} {mk dm sd cd : Addr} {osd : Obj} {e1 e2 e3 e4 e5 e6 x1 x2 x3 x4 ta tm : Tok} {tr : Int}
    (hsd : osd.IsDictOf (strKind prog w) []) (los : (sd == sysModules) = false) (hnd : AllApart [mk, dm, sd]) (htr : 0 ≤ tr) (htr1 : tr < 100) :
    Spec prog w 8 173 [.ref mk, .str "application" ta, .int 2 tm] [(mk, instObj 190 dm), (dm, ecnD w e1 e2 e3 e4 e5 e6 (.int 1 x1) (.str "testing" x2) (.int tr x3) (.int 0 x4) (.ref sd) (.ref cd)), (sd, osd)]
      (fun v A' => ∃ x2' x3' T2' osd' y1' y2' r n' o', v = .none ∧ osd'.IsDictOf (strKind prog w) [("application", .ref T2')] ∧ r = tr + 1 ∧ n' = 0 + 1 ∧ o' = 0 ∧ Aps T2' [mk, dm, sd] ∧
        A' = [(mk, instObj 190 dm), (dm, ecnD w e1 e2 e3 e4 e5 e6 (.int 1 x1) (.str "waiting" x2') (.int r x3') (.int 0 x4) (.ref sd) (.ref cd)), (sd, osd'), (T2', MkTup [.int n' y1', .int o' y2'])]) :=
  sent_first prog w mk dm sd cd osd e1 e2 e3 e4 e5 e6 x1 x2 x3 x4 0 0 ta tm tr hsd los hnd htr htr1
theorem sentL_spec {prog : Program} {w : World} {mk dm sd cd T2 : Addr} {osd : Obj} {e1 e2 e3 e4 e5 e6 x1 x2 x3 x4 y1 y2 ta tm : Tok} {tr n : Int}
    (hsd : osd.IsDictOf (strKind prog w) [("application", .ref T2)]) (los : (sd == sysModules) = false) (hnd : AllApart [mk, dm, sd, T2]) (htr : 0 ≤ tr) (htr1 : tr < 100) (hn : 0 ≤ n) (hn1 : n < 100) :
    Spec prog w 8 173 [.ref mk, .str "application" ta, .int 2 tm] [(mk, instObj 190 dm), (dm, ecnD w e1 e2 e3 e4 e5 e6 (.int 1 x1) (.str "good" x2) (.int tr x3) (.int 0 x4) (.ref sd) (.ref cd)), (sd, osd), (T2, MkTup [.int n y1, .int 0 y2])]
      (fun v A' => ∃ x2' x3' T2' osd' y1' y2' r n' o', v = .none ∧ osd'.IsDictOf (strKind prog w) [("application", .ref T2')] ∧ r = tr + 1 ∧ n' = n + 1 ∧ o' = 0 ∧ Aps T2' [mk, dm, sd] ∧
        A' = [(mk, instObj 190 dm), (dm, ecnD w e1 e2 e3 e4 e5 e6 (.int 1 x1) (.str "good" x2') (.int r x3') (.int 0 x4) (.ref sd) (.ref cd)), (sd, osd'), (T2', MkTup [.int n' y1', .int o' y2'])]) :=
  sent_later prog w mk dm sd cd T2 osd e1 e2 e3 e4 e5 e6 x1 x2 x3 x4 y1 y2 ta tm tr n hsd los hnd htr htr1 hn hn1
theorem ackF_spec {prog : Program} {w : World} {mk dm sd cd T2 T1' l : Addr} {osd ocd : Obj} {nl : Nat} {e1 e2 e3 e4 e5 e6 x1 x2 x3 x4 y1 y2 u1 u2 u3 ta tm : Tok} {tr n1 z' c' o' : Int}
    (hsd : osd.IsDictOf (strKind prog w) [("application", .ref T2)]) (los : (sd == sysModules) = false)
    (hcd : ocd.IsDictOf (strKind prog w) []) (loc : (cd == sysModules) = false) (hnd : AllApart [mk, dm, sd, cd, T2, T1', l]) (ho : o' = 0) (hs : z' + c' = n1) (hs1 : n1 = 1) (hz0 : 0 ≤ z') (hc0 : 0 ≤ c') :
    Spec prog w 12 187 [.ref mk, .str "application" ta, .ref T1', .ref l, .bool true]
      [(mk, instObj 190 dm), (dm, ecnD w e1 e2 e3 e4 e5 e6 (.int 1 x1) (.str "waiting" x2) (.int tr x3) (.int 0 x4) (.ref sd) (.ref cd)), (sd, osd), (T2, MkTup [.int n1 y1, .int 0 y2]), (cd, ocd),
        (T1', MkTup [.int z' u1, .int o' u2, .int c' u3]), (l, listOf #[.int 2 tm] nl)]
      (fun v A' => ∃ t x2' ocd' r, v = .int r t ∧ r = c' - 0 ∧ ocd'.IsDictOf (strKind prog w) [("application", .ref T1')] ∧
        A' = [(mk, instObj 190 dm), (dm, ecnD w e1 e2 e3 e4 e5 e6 (.int 1 x1) (.str "good" x2') (.int tr x3) (.int 0 x4) (.ref sd) (.ref cd)), (sd, osd), (T2, MkTup [.int n1 y1, .int 0 y2]), (cd, ocd'),
          (T1', MkTup [.int z' u1, .int 0 u2, .int c' u3])]) := by
  subst ho
  intro p loose mean mg mb dp un gd cn cs a ccd lc outer A₀ base h₀ L m s Q E rest B F X N NR hoff T hk hdp hun hret
  refine ack_first prog w mk dm sd cd T2 T1' l osd ocd nl e1 e2 e3 e4 e5 e6 x1 x2 x3 x4 y1 y2 u1 u2 u3 ta tm tr n1 z' c' hsd los hcd loc hnd hs hs1 hz0 hc0
    p loose mean mg mb dp un gd cn cs a ccd lc outer A₀ base h₀ L m s Q E rest B F X N NR hoff T hk hdp hun ?_
  rintro v A' h' tk' ⟨t, x2', ocd', ⟨r, hr, hv⟩, hd, hA⟩
  exact hret v A' h' tk' ⟨t, x2', ocd', r, hv, by omega, hd, hA⟩
theorem ackL_spec {prog : Program} {w : World} {mk dm sd cd T1 T2 T1' l : Addr} {osd ocd : Obj} {nl : Nat} {e1 e2 e3 e4 e5 e6 x1 x2 x3 x4 y1 y2 z1 z2 z3 u1 u2 u3 ta tm : Tok} {tr n1 z c z' c' o' : Int}
    (hsd : osd.IsDictOf (strKind prog w) [("application", .ref T2)]) (los : (sd == sysModules) = false)
    (hcd : ocd.IsDictOf (strKind prog w) [("application", .ref T1)]) (loc : (cd == sysModules) = false) (hnd : AllApart [mk, dm, sd, cd, T1, T2, T1', l]) (ho : o' = 0)
    (hz : z ≤ z') (hc : c ≤ c') (hs : z' + c' = n1) (hs1 : z' + c' = z + c + 1) (hz0 : 0 ≤ z) (hc0 : 0 ≤ c) (hn1 : n1 < 100) :
    Spec prog w 12 187 [.ref mk, .str "application" ta, .ref T1', .ref l, .bool true]
      [(mk, instObj 190 dm), (dm, ecnD w e1 e2 e3 e4 e5 e6 (.int 1 x1) (.str "good" x2) (.int tr x3) (.int 0 x4) (.ref sd) (.ref cd)), (sd, osd), (T2, MkTup [.int n1 y1, .int 0 y2]), (cd, ocd),
        (T1, MkTup [.int z z1, .int 0 z2, .int c z3]), (T1', MkTup [.int z' u1, .int o' u2, .int c' u3]), (l, listOf #[.int 2 tm] nl)]
      (fun v A' => ∃ t x2' ocd' r, v = .int r t ∧ r = c' - c ∧ ocd'.IsDictOf (strKind prog w) [("application", .ref T1')] ∧
        A' = [(mk, instObj 190 dm), (dm, ecnD w e1 e2 e3 e4 e5 e6 (.int 1 x1) (.str "good" x2') (.int tr x3) (.int 0 x4) (.ref sd) (.ref cd)), (sd, osd), (T2, MkTup [.int n1 y1, .int 0 y2]), (cd, ocd'),
          (T1', MkTup [.int z' u1, .int 0 u2, .int c' u3])]) := by
  subst ho
  intro p loose mean mg mb dp un gd cn cs a ccd lc outer A₀ base h₀ L m s Q E rest B F X N NR hoff T hk hdp hun hret
  refine ack_later prog w mk dm sd cd T1 T2 T1' l osd ocd nl e1 e2 e3 e4 e5 e6 x1 x2 x3 x4 y1 y2 z1 z2 z3 u1 u2 u3 ta tm tr n1 z c z' c' hsd los hcd loc hnd hz hc hs hs1 hz0 hc0 hn1
    p loose mean mg mb dp un gd cn cs a ccd lc outer A₀ base h₀ L m s Q E rest B F X N NR hoff T hk hdp hun ?_
  rintro v A' h' tk' ⟨t, x2', ocd', hv, hd, hA⟩
  exact hret v A' h' tk' ⟨t, x2', ocd', _, hv, rfl, hd, hA⟩
theorem mark_C {prog : Program} {w : World} {mk dm sd cd : Addr} {e1 e2 e3 e4 e5 e6 x1 x2 x3 x4 : Tok} {tr : Int} {st : Str} (hst : st = "testing" ∨ st = "good") (hnd : AllApart [mk, dm]) :
    SpecC prog w 8 152 [.ref mk] [(mk, instObj 190 dm), (dm, ecnD w e1 e2 e3 e4 e5 e6 (.int 1 x1) (.str st x2) (.int tr x3) (.int 0 x4) (.ref sd) (.ref cd))]
      (fun K => ∀ t, K (.int 2 t) [(mk, instObj 190 dm), (dm, ecnD w e1 e2 e3 e4 e5 e6 (.int 1 x1) (.str st x2) (.int tr x3) (.int 0 x4) (.ref sd) (.ref cd))]) := by
  refine ⟨_, mark_spec hst hnd, ?_⟩
  rintro _ _ K ⟨t, rfl, rfl⟩ k
  exact k t
theorem sentF_C {prog : Program} {w : World} {mk dm sd cd : Addr} {osd : Obj} {e1 e2 e3 e4 e5 e6 x1 x2 x3 x4 ta tm : Tok} {tr : Int}
    (hsd : osd.IsDictOf (strKind prog w) []) (los : (sd == sysModules) = false) (hnd : AllApart [mk, dm, sd]) (htr : 0 ≤ tr) (htr1 : tr < 100) :
    SpecC prog w 8 173 [.ref mk, .str "application" ta, .int 2 tm] [(mk, instObj 190 dm), (dm, ecnD w e1 e2 e3 e4 e5 e6 (.int 1 x1) (.str "testing" x2) (.int tr x3) (.int 0 x4) (.ref sd) (.ref cd)), (sd, osd)]
      (fun K => ∀ x2' x3' T2' osd' y1' y2' r n', osd'.IsDictOf (strKind prog w) [("application", .ref T2')] → r = tr + 1 → n' = 0 + 1 → Aps T2' [mk, dm, sd] → K (.none) [(mk, instObj 190 dm), (dm, ecnD w e1 e2 e3 e4 e5 e6 (.int 1 x1) (.str "waiting" x2') (.int r x3') (.int 0 x4) (.ref sd) (.ref cd)), (sd, osd'), (T2', MkTup [.int n' y1', .int 0 y2'])]) := by
  refine ⟨_, sentF_spec hsd los hnd htr htr1, ?_⟩
  rintro _ _ K ⟨x2', x3', T2', osd', y1', y2', r, n', o', rfl, h0, h1, h2, rfl, h4, rfl⟩ k
  exact k x2' x3' T2' osd' y1' y2' r n' h0 h1 h2 h4
theorem sentL_C {prog : Program} {w : World} {mk dm sd cd T2 : Addr} {osd : Obj} {e1 e2 e3 e4 e5 e6 x1 x2 x3 x4 y1 y2 ta tm : Tok} {tr n : Int}
    (hsd : osd.IsDictOf (strKind prog w) [("application", .ref T2)]) (los : (sd == sysModules) = false) (hnd : AllApart [mk, dm, sd, T2]) (htr : 0 ≤ tr) (htr1 : tr < 100) (hn : 0 ≤ n) (hn1 : n < 100) :
    SpecC prog w 8 173 [.ref mk, .str "application" ta, .int 2 tm] [(mk, instObj 190 dm), (dm, ecnD w e1 e2 e3 e4 e5 e6 (.int 1 x1) (.str "good" x2) (.int tr x3) (.int 0 x4) (.ref sd) (.ref cd)), (sd, osd), (T2, MkTup [.int n y1, .int 0 y2])]
      (fun K => ∀ x2' x3' T2' osd' y1' y2' r n', osd'.IsDictOf (strKind prog w) [("application", .ref T2')] → r = tr + 1 → n' = n + 1 → Aps T2' [mk, dm, sd] → K (.none) [(mk, instObj 190 dm), (dm, ecnD w e1 e2 e3 e4 e5 e6 (.int 1 x1) (.str "good" x2') (.int r x3') (.int 0 x4) (.ref sd) (.ref cd)), (sd, osd'), (T2', MkTup [.int n' y1', .int 0 y2'])]) := by
  refine ⟨_, sentL_spec hsd los hnd htr htr1 hn hn1, ?_⟩
  rintro _ _ K ⟨x2', x3', T2', osd', y1', y2', r, n', o', rfl, h0, h1, h2, rfl, h4, rfl⟩ k
  exact k x2' x3' T2' osd' y1' y2' r n' h0 h1 h2 h4
theorem ackF_C {prog : Program} {w : World} {mk dm sd cd T2 T1' l : Addr} {osd ocd : Obj} {nl : Nat} {e1 e2 e3 e4 e5 e6 x1 x2 x3 x4 y1 y2 u1 u2 u3 ta tm : Tok} {tr n1 z' c' o' : Int}
    (hsd : osd.IsDictOf (strKind prog w) [("application", .ref T2)]) (los : (sd == sysModules) = false)
    (hcd : ocd.IsDictOf (strKind prog w) []) (loc : (cd == sysModules) = false) (hnd : AllApart [mk, dm, sd, cd, T2, T1', l]) (ho : o' = 0) (hs : z' + c' = n1) (hs1 : n1 = 1) (hz0 : 0 ≤ z') (hc0 : 0 ≤ c') :
    SpecC prog w 12 187 [.ref mk, .str "application" ta, .ref T1', .ref l, .bool true]
      [(mk, instObj 190 dm), (dm, ecnD w e1 e2 e3 e4 e5 e6 (.int 1 x1) (.str "waiting" x2) (.int tr x3) (.int 0 x4) (.ref sd) (.ref cd)), (sd, osd), (T2, MkTup [.int n1 y1, .int 0 y2]), (cd, ocd),
        (T1', MkTup [.int z' u1, .int o' u2, .int c' u3]), (l, listOf #[.int 2 tm] nl)]
      (fun K => ∀ t x2' ocd' r, r = c' - 0 → ocd'.IsDictOf (strKind prog w) [("application", .ref T1')] → K (.int r t) [(mk, instObj 190 dm), (dm, ecnD w e1 e2 e3 e4 e5 e6 (.int 1 x1) (.str "good" x2') (.int tr x3) (.int 0 x4) (.ref sd) (.ref cd)), (sd, osd), (T2, MkTup [.int n1 y1, .int 0 y2]), (cd, ocd'),
          (T1', MkTup [.int z' u1, .int 0 u2, .int c' u3])]) := by
  refine ⟨_, ackF_spec hsd los hcd loc hnd ho hs hs1 hz0 hc0, ?_⟩
  rintro _ _ K ⟨t, x2', ocd', r, rfl, h0, h1, rfl⟩ k
  exact k t x2' ocd' r h0 h1
theorem ackL_C {prog : Program} {w : World} {mk dm sd cd T1 T2 T1' l : Addr} {osd ocd : Obj} {nl : Nat} {e1 e2 e3 e4 e5 e6 x1 x2 x3 x4 y1 y2 z1 z2 z3 u1 u2 u3 ta tm : Tok} {tr n1 z c z' c' o' : Int}
    (hsd : osd.IsDictOf (strKind prog w) [("application", .ref T2)]) (los : (sd == sysModules) = false)
    (hcd : ocd.IsDictOf (strKind prog w) [("application", .ref T1)]) (loc : (cd == sysModules) = false) (hnd : AllApart [mk, dm, sd, cd, T1, T2, T1', l]) (ho : o' = 0)
    (hz : z ≤ z') (hc : c ≤ c') (hs : z' + c' = n1) (hs1 : z' + c' = z + c + 1) (hz0 : 0 ≤ z) (hc0 : 0 ≤ c) (hn1 : n1 < 100) :
    SpecC prog w 12 187 [.ref mk, .str "application" ta, .ref T1', .ref l, .bool true]
      [(mk, instObj 190 dm), (dm, ecnD w e1 e2 e3 e4 e5 e6 (.int 1 x1) (.str "good" x2) (.int tr x3) (.int 0 x4) (.ref sd) (.ref cd)), (sd, osd), (T2, MkTup [.int n1 y1, .int 0 y2]), (cd, ocd),
        (T1, MkTup [.int z z1, .int 0 z2, .int c z3]), (T1', MkTup [.int z' u1, .int o' u2, .int c' u3]), (l, listOf #[.int 2 tm] nl)]
      (fun K => ∀ t x2' ocd' r, r = c' - c → ocd'.IsDictOf (strKind prog w) [("application", .ref T1')] → K (.int r t) [(mk, instObj 190 dm), (dm, ecnD w e1 e2 e3 e4 e5 e6 (.int 1 x1) (.str "good" x2') (.int tr x3) (.int 0 x4) (.ref sd) (.ref cd)), (sd, osd), (T2, MkTup [.int n1 y1, .int 0 y2]), (cd, ocd'),
          (T1', MkTup [.int z' u1, .int 0 u2, .int c' u3])]) := by
  refine ⟨_, ackL_spec hsd los hcd loc hnd ho hz hc hs hs1 hz0 hc0 hn1, ?_⟩
  rintro _ _ K ⟨t, x2', ocd', r, rfl, h0, h1, rfl⟩ k
  exact k t x2' ocd' r h0 h1
theorem cong_C {prog : Program} {w : World} {way dw : Addr} {k1 k2 k3 k4 k5 k6 t1 t2 t5 t6 tn tm : Tok} {thr rec : Value} {met : Bool} {d win fl cr now : Int}
    (W : WaySt now win thr rec met) (hnd : AllApart [way, dw]) (hd0 : 10 ≤ d) (hd1 : d < 50) (hw0 : 2 * d ≤ win) (hw1 : win < 1000000) (hn0 : 0 ≤ now) (hn1 : now < 100) :
    SpecC prog w 8 105 [.ref way, .int now tn, .int (now + 1) tm] [(way, instObj 122 dw), (dw, wayD w k1 k2 k3 k4 k5 k6 (.int d t1) (.int win t2) thr rec (.int fl t5) (.int cr t6))]
      (fun K => ∀ t2' t3' t4' t6' w2 r', w2 = max (win / 2) (2 * d) → r' = now + 1 → K (.none) [(way, instObj 122 dw), (dw, wayD w k1 k2 k3 k4 k5 k6 (.int d t1) (.int w2 t2') (.int w2 t3') (.int r' t4') (.int fl t5) (.int 0 t6'))]) := by
  refine ⟨_, cong_spec W hnd hd0 hd1 hw0 hw1 hn0 hn1, ?_⟩
  rintro _ _ K ⟨t2', t3', t4', t6', w2, r', rfl, h0, h1, rfl⟩ k
  exact k t2' t3' t4' t6' w2 r' h0 h1
theorem acked_C {prog : Program} {w : World} {way dw : Addr} {k1 k2 k3 k4 k5 k6 t1 t2 t5 t6 tz tn tm to : Tok} {thr rec : Value} {met : Bool} {d win fl now now2 : Int}
    (W : WaySt now win thr rec met) (hnd : AllApart [way, dw]) (hd0 : 10 ≤ d) (hd1 : d < 50) (hw0 : 2 * d ≤ win) (hw1 : win < 1000000) (hn0 : 0 ≤ now) (hn1 : now < 100) :
    SpecC prog w 8 91 [.ref way, .int win tz, .int now tn, .bool true, .int now2 tm, .int 0 to] [(way, instObj 122 dw), (dw, wayD w k1 k2 k3 k4 k5 k6 (.int d t1) (.int win t2) thr rec (.int fl t5) (.int 0 t6))]
      (fun K => ∀ t2' t5' t6' w2 f2 c2, w2 = win + (if met then d else win) → c2 = 0 → f2 = fl - win → K (.none) [(way, instObj 122 dw), (dw, wayD w k1 k2 k3 k4 k5 k6 (.int d t1) (.int w2 t2') thr rec (.int f2 t5') (.int c2 t6'))]) := by
  refine ⟨_, acked_spec W hnd hd0 hd1 hw0 hw1 hn0 hn1, ?_⟩
  rintro _ _ K ⟨t2', t5', t6', w2, f2, c2, rfl, h0, h1, h2, rfl⟩ k
  exact k t2' t5' t6' w2 f2 c2 h0 h1 h2
theorem acked_in_C {prog : Program} {w : World} {way dw : Addr} {k1 k2 k3 k4 k5 k6 t1 t2 t5 t6 tz tn tm to : Tok} {thr : Value} {r1 : Tok} {d win size fl cr now now2 r : Int}
    (hr : now ≤ r) (hnd : AllApart [way, dw]) (hd0 : 10 ≤ d) (hd1 : d < 50) (hw0 : 2 * d ≤ win) (hw1 : win < 1000000) (hn0 : 0 ≤ now) (hn1 : now < 100) :
    SpecC prog w 8 91 [.ref way, .int size tz, .int now tn, .bool true, .int now2 tm, .int 0 to] [(way, instObj 122 dw), (dw, wayD w k1 k2 k3 k4 k5 k6 (.int d t1) (.int win t2) thr (.int r r1) (.int fl t5) (.int cr t6))]
      (fun K => ∀ t2' t5' t6' w2 f2 c2, w2 = win → c2 = cr → f2 = fl - size → K (.none) [(way, instObj 122 dw), (dw, wayD w k1 k2 k3 k4 k5 k6 (.int d t1) (.int w2 t2') thr (.int r r1) (.int f2 t5') (.int c2 t6'))]) := by
  refine ⟨_, acked_in hr hnd hd0 hd1 hw0 hw1 hn0 hn1, ?_⟩
  rintro _ _ K ⟨t2', t5', t6', w2, f2, c2, rfl, h0, h1, h2, rfl⟩ k
  exact k t2' t5' t6' w2 f2 c2 h0 h1 h2
end

/- Rounds -/
section
theorem mem11 {l : List (Addr × Obj)} {a1 a2 a3 a4 a5 a6 a7 a8 a9 a10 a11 : Addr × Obj} (h1 : a1 ∈ l) (h2 : a2 ∈ l) (h3 : a3 ∈ l) (h4 : a4 ∈ l) (h5 : a5 ∈ l) (h6 : a6 ∈ l) (h7 : a7 ∈ l) (h8 : a8 ∈ l) (h9 : a9 ∈ l) (h10 : a10 ∈ l) (h11 : a11 ∈ l) :
    ∀ q ∈ [a1, a2, a3, a4, a5, a6, a7, a8, a9, a10, a11], q ∈ l := by simp [*]
theorem WaySt.next {now win w2 : Int} {thr rec : Value} {met : Bool} (W : WaySt now win thr rec met) (h : win ≤ w2) (h2 : now ≤ now + 2) : WaySt (now + 2) w2 thr rec (met || false) := by
  cases W with
  | unmet => exact .unmet
  | met a b => exact .met (by omega) (by omega)
local macro_rules | `(tactic| walk_at "call ref") => `(tactic| (k_here; (with_reducible show wpAny _ _ (call (Value.ref 152) _) _ _ _); k_dflt (refine' spec_useC ?B ?F ?X ?N ?T ?hk ?P (mark_C ?h1 ?h2) ?off ?dp ?un ?_; (case B | F | X | N | T => k_asm); (case hk => exact rfl); (case P => kd_all); (case h1 => first | exact Or.inl rfl | exact Or.inr rfl); (case h2 => kd_subs); (case off => kd_facts1); (case dp => ktr_room); (case un => ktr_units); k_whole); intro t' h' tk' F' N' off'; clear off'; (try simp only [List.cons_append, List.nil_append] at N'); (try dsimp only); (try k_sweep)))
local macro_rules | `(tactic| walk_at "call ref") => `(tactic| (k_here; (with_reducible show wpAny _ _ (call (Value.ref 173) [Value.ref _, Value.str _ _, Value.int _ _]) _ _ _); k_dflt (first | (refine' spec_useC ?B ?F ?X ?N ?T ?hk (Picks.cons ?p1 (Picks.cons ?p2 (Picks.cons ?p3 (Picks.cons ?p4 Picks.nil)))) (sentL_C ?s1 ?s2 ?s3 ?s4 ?s5 ?s6 ?s7) ?off ?dp ?un ?_; (case B | F | X | N | T => k_asm); (case hk => exact rfl); (case p1 | p2 | p3 => kd_in); (case s1 => k_asm); (case p4 => kd_in); (case s2 => k_asm); (case s3 => kd_subs); (case s4 | s5 | s6 | s7 => omega); (case off => kd_facts1); (case dp => ktr_room); (case un => ktr_units); k_whole) | (refine' spec_useC ?B ?F ?X ?N ?T ?hk ?P (sentF_C ?s1 ?s2 ?s3 ?s4 ?s5) ?off ?dp ?un ?_; (case B | F | X | N | T => k_asm); (case hk => exact rfl); (case P => kd_all); (case s1 | s2 => k_asm); (case s3 => kd_subs); (case s4 | s5 => omega); (case off => kd_facts1); (case dp => ktr_room); (case un => ktr_units); k_whole)); intro x2' x3' T2' osd' y1' y2' r' n' hd' hr' hn' ap' h' tk' F' N' off'; have aq' := Aps.of (off' _ (List.Mem.tail _ (List.Mem.tail _ (List.Mem.tail _ (List.Mem.head _))))); simp only [List.map_cons, List.map_nil] at aq'; have ar' := Aps.both ap' aq'; clear ap' aq'; simp only [List.cons_append, List.nil_append] at ar'; clear off'; (try simp only [List.cons_append, List.nil_append] at N'); (try dsimp only); (try k_sweep)))
local macro_rules | `(tactic| walk_at "call ref") => `(tactic| (k_here; (with_reducible show wpAny _ _ (call (Value.ref 187) [Value.ref _, Value.str _ _, Value.ref _, Value.ref _, Value.bool true]) _ _ _); k_dflt (first | (refine' spec_useC ?B ?F ?X ?N ?T ?hk (Picks.cons ?p1 (Picks.cons ?p2 (Picks.cons ?p3 (Picks.cons ?p4 (Picks.cons ?p5 (Picks.cons ?p6 (Picks.cons ?p7 (Picks.cons ?p8 Picks.nil)))))))) (ackL_C ?s1 ?s2 ?s3 ?s4 ?s5 ?s6 ?s7 ?s8 ?s9 ?s10 ?s11 ?s12 ?s13) ?off ?dp ?un ?_; (case B | F | X | N | T => k_asm); (case hk => exact rfl); (case p1 | p2 | p3 => kd_in); (case s1 => k_asm); (case p4 | p5 => kd_in); (case s3 => k_asm); (case p6 | p7 | p8 => kd_in); (case s2 | s4 => k_asm); (case s5 => kd_subs); (case s6 | s7 | s8 | s9 | s10 | s11 | s12 | s13 => omega); (case off => kd_facts1); (case dp => ktr_room); (case un => ktr_units); k_whole) | (refine' spec_useC ?B ?F ?X ?N ?T ?hk (Picks.cons ?p1 (Picks.cons ?p2 (Picks.cons ?p3 (Picks.cons ?p4 (Picks.cons ?p5 (Picks.cons ?p6 (Picks.cons ?p7 Picks.nil))))))) (ackF_C ?s1 ?s2 ?s3 ?s4 ?s5 ?s6 ?s7 ?s8 ?s9 ?s10) ?off ?dp ?un ?_; (case B | F | X | N | T => k_asm); (case hk => exact rfl); (case p1 | p2 | p3 => kd_in); (case s1 => k_asm); (case p4 | p5 => kd_in); (case s3 => k_asm); (case p6 | p7 => kd_in); (case s2 | s4 => k_asm); (case s5 => kd_subs); (case s6 | s7 | s8 | s9 | s10 => omega); (case off => kd_facts1); (case dp => ktr_room); (case un => ktr_units); k_whole)); intro t' x2' ocd' r' hr' hd' h' tk' F' N' off'; clear off'; (try simp only [List.cons_append, List.nil_append] at N'); (try dsimp only); (try k_sweep)))
local macro_rules | `(tactic| walk_at "call ref") => `(tactic| (k_here; (with_reducible show wpAny _ _ (call (Value.ref 105) [Value.ref _, Value.int _ _, Value.int _ _]) _ _ _); k_dflt (refine' spec_useC ?B ?F ?X ?N ?T ?hk ?P (cong_C ?s1 ?s2 ?s3 ?s4 ?s5 ?s6 ?s7 ?s8) ?off ?dp ?un ?_; (case B | F | X | N | T => k_asm); (case hk => exact rfl); (case P => kd_all); (case s1 => k_asm); (case s2 => kd_subs); (case s3 | s4 | s5 | s6 | s7 | s8 => omega); (case off => kd_facts1); (case dp => ktr_room); (case un => ktr_units); k_whole); intro t2' t3' t4' t6' w2' r' hw2' hr' h' tk' F' N' off'; clear off'; (try simp only [List.cons_append, List.nil_append] at N'); (try dsimp only); (try k_sweep)))
local macro_rules | `(tactic| walk_at "call ref") => `(tactic| (k_here; (with_reducible show wpAny _ _ (call (Value.ref 91) [Value.ref _, Value.int _ _, Value.int _ _, Value.bool true, Value.int _ _, Value.int _ _]) _ _ _); k_dflt (first | (refine' spec_useC ?B ?F ?X ?N ?T ?hk ?P (acked_in_C ?s1 ?s2 ?s3 ?s4 ?s5 ?s6 ?s7 ?s8) ?off ?dp ?un ?_; (case B | F | X | N | T => k_asm); (case hk => exact rfl); (case P => kd_all); (case s1 => omega); (case s2 => kd_subs); (case s3 | s4 | s5 | s6 | s7 | s8 => omega); (case off => kd_facts1); (case dp => ktr_room); (case un => ktr_units); k_whole) | (refine' spec_useC ?B ?F ?X ?N ?T ?hk ?P (acked_C ?s1 ?s2 ?s3 ?s4 ?s5 ?s6 ?s7 ?s8) ?off ?dp ?un ?_; (case B | F | X | N | T => k_asm); (case hk => exact rfl); (case P => kd_all); (case s1 => k_asm); (case s2 => kd_subs); (case s3 | s4 | s5 | s6 | s7 | s8 => omega); (case off => kd_facts1); (case dp => ktr_room); (case un => ktr_units); k_whole)); intro t2' t5' t6' w2' f2' c2' hw2' hc2' hf2' h' tk' F' N' off'; clear off'; (try simp only [List.cons_append, List.nil_append] at N'); (try dsimp only); (try k_sweep)))
local macro_rules | `(tactic| walk_at "call ref") => `(tactic| (k_here; (with_reducible show wpAny _ _ (call (Value.ref 77) [Value.ref _, Value.int _ _]) _ _ _); k_dflt (refine' spec_useC ?B ?F ?X ?N ?T ?hk ?P (wsent_C ?s1 ?s2 ?s3) ?off ?dp ?un ?_; (case B | F | X | N | T => k_asm); (case hk => exact rfl); (case P => kd_all); (case s1 => kd_subs); (case s2 | s3 => omega); (case off => kd_facts1); (case dp => ktr_room); (case un => ktr_units); k_whole); intro t' f' hf' h' tk' F' N' off'; clear off'; (try simp only [List.cons_append, List.nil_append] at N'); (try dsimp only); (try k_sweep)))
local macro_rules | `(tactic| walk_at "call ref") => `(tactic| (k_here; (with_reducible show wpAny _ _ (call (Value.ref 56) [Value.ref _, Value.int _ _]) _ _ _); k_dflt (first | (refine' spec_useC ?B ?F ?X ?N ?T ?hk ?P (may_yes_C ?s1 ?s2 ?s3 ?s4 ?s5) ?off ?dp ?un ?_; (case B | F | X | N | T => k_asm); (case hk => exact rfl); (case P => kd_all); (case s1 => kd_subs); (case s2 | s3 | s4 | s5 => omega); (case off => kd_facts1); (case dp => ktr_room); (case un => ktr_units); k_whole) | (refine' spec_useC ?B ?F ?X ?N ?T ?hk ?P (may_no_C ?s1 ?s2 ?s3 ?s4 ?s5) ?off ?dp ?un ?_; (case B | F | X | N | T => k_asm); (case hk => exact rfl); (case P => kd_all); (case s1 => kd_subs); (case s2 | s3 | s4 | s5 => omega); (case off => kd_facts1); (case dp => ktr_room); (case un => ktr_units); k_whole)); intro h' tk' F' N' off'; clear off'; (try simp only [List.cons_append, List.nil_append] at N'); (try dsimp only); (try k_sweep)))
local macro_rules | `(tactic| walk_at "call ref") => `(tactic| (k_here; (with_reducible show wpAny _ _ (call (Value.ref 222) [Value.ref _]) _ _ _); k_dflt (refine' spec_useC ?B ?F ?X ?N ?T ?hk ?P (told_C ?s1 ?s2 ?s3 ?s4 ?s5 ?s6 ?s7) ?off ?dp ?un ?_; (case B | F | X | N | T => k_asm); (case hk => exact rfl); (case P => kd_all); (case s1 => kd_subs); (case s2 | s3 | s4 | s5 | s6 | s7 => omega); (case off => kd_facts1); (case dp => ktr_room); (case un => ktr_units); k_whole); intro h' tk' F' N' off'; clear off'; (try simp only [List.cons_append, List.nil_append] at N'); (try dsimp only); (try k_sweep)))
local macro_rules | `(tactic| walk_at "call ref") => `(tactic| (k_here; (with_reducible show wpAny _ _ (call (Value.ref 215) [Value.ref _, Value.int _ _]) _ _ _); k_dflt (first | (refine' spec_useC ?B ?F ?X ?N ?T ?hk ?P (packet_no_C ?s1 ?s2 ?s3 ?s4 ?s5) ?off ?dp ?un ?_; (case B | F | X | N | T => k_asm); (case hk => exact rfl); (case P => kd_all); (case s1 => kd_subs); (case s2 | s3 | s4 | s5 => omega); (case off => kd_facts1); (case dp => ktr_room); (case un => ktr_units); k_whole) | (refine' spec_useC ?B ?F ?X ?N ?T ?hk ?P (packet_yes_C ?s1 ?s2 ?s3 ?s4 ?s5) ?off ?dp ?un ?_; (case B | F | X | N | T => k_asm); (case hk => exact rfl); (case P => kd_all); (case s1 => kd_subs); (case s2 | s3 | s4 | s5 => omega); (case off => kd_facts1); (case dp => ktr_room); (case un => ktr_units); k_whole)); intro T1' z1' z2' z3' z' o' c' hz' ho' hc' ap' h' tk' F' N' off'; have aq' := Aps.of (off' _ (List.Mem.tail _ (List.Mem.tail _ (List.Mem.head _)))); simp only [List.map_cons, List.map_nil] at aq'; have ar' := Aps.both ap' aq'; clear ap' aq'; simp only [List.cons_append, List.nil_append] at ar'; clear off'; (try simp only [List.cons_append, List.nil_append] at N'); (try dsimp only); (try k_sweep)))
theorem round_mk {prog : Program} {w : World} {sl way dw mk dm sd cd sn ds : Addr} {nS : Nat} {k1 k2 k3 k4 k5 k6 e1 e2 e3 e4 e5 e6 f1 t1 x1 x4 : Tok} {d now w2v n1v : Int} {m2 : Bool}
    {bq_ : Bool} {thrq_ recq_ : Value} {w2q_ nq_ zq_ cq_ f2q_ c2q_ o1q_ o2q_ np_ : Int} {t2q_ t5q_ t6q_ x2q_ x3q_ y1q_ y2q_ z1q_ z2q_ z3q_ : Tok} {T1q_ T2q_ : Addr} {osdq_ ocdq_ : Obj}
    (h0 : bq_ = true) (h1 : w2q_ = w2v) (h2 : WaySt (now + 2) w2q_ thrq_ recq_ m2) (h3 : osdq_.IsDictOf (strKind prog w) [("application", .ref T2q_)]) (h4 : ocdq_.IsDictOf (strKind prog w) [("application", .ref T1q_)]) (h5 : nq_ = n1v) (h6 : np_ = zq_ + cq_) (h7 : 0 ≤ zq_) (h8 : 0 ≤ cq_) (h9 : f2q_ = 0) (h10 : c2q_ = 0) (h11 : o1q_ = 0) (h12 : (o2q_ = 0 ∧ np_ = nq_)) (h13 : AllApart [sl, way, dw, mk, dm, sd, cd, sn, ds, T1q_, T2q_]) :
    ∃ b thr' rec' w2 n' z' c' f2 c2 o1 o2 t2' t5' t6' x2' x3' y1' y2' z1' z2' z3' T1' T2' osd' ocd' n'', (Value.bool bq_) = .bool b ∧ b = true ∧ w2 = w2v ∧ WaySt (now + 2) w2 thr' rec' m2 ∧
        osd'.IsDictOf (strKind prog w) [("application", .ref T2')] ∧ ocd'.IsDictOf (strKind prog w) [("application", .ref T1')] ∧ n' = n1v ∧ n'' = z' + c' ∧ 0 ≤ z' ∧ 0 ≤ c' ∧ f2 = 0 ∧ c2 = 0 ∧ o1 = 0 ∧ (o2 = 0 ∧ n'' = n') ∧
        AllApart [sl, way, dw, mk, dm, sd, cd, sn, ds, T1', T2'] ∧
        ([(sl, listOf #[.ref way, .ref mk, .ref sn] nS), (way, instObj 122 dw), (dw, wayD w k1 k2 k3 k4 k5 k6 (.int d t1) (.int w2q_ t2q_) thrq_ recq_ (.int f2q_ t5q_) (.int c2q_ t6q_)),
          (mk, instObj 190 dm), (dm, ecnD w e1 e2 e3 e4 e5 e6 (.int 1 x1) (.str "good" x2q_) (.int nq_ x3q_) (.int 0 x4) (.ref sd) (.ref cd)), (sd, osdq_), (cd, ocdq_),
          (sn, instObj 225 ds), (ds, seenD w f1 (.ref T1q_)), (T1q_, MkTup [.int zq_ z1q_, .int o1q_ z2q_, .int cq_ z3q_]), (T2q_, MkTup [.int np_ y1q_, .int o2q_ y2q_])] : List (Addr × Obj)) = [(sl, listOf #[.ref way, .ref mk, .ref sn] nS), (way, instObj 122 dw), (dw, wayD w k1 k2 k3 k4 k5 k6 (.int d t1) (.int w2 t2') thr' rec' (.int f2 t5') (.int c2 t6')),
          (mk, instObj 190 dm), (dm, ecnD w e1 e2 e3 e4 e5 e6 (.int 1 x1) (.str "good" x2') (.int n' x3') (.int 0 x4) (.ref sd) (.ref cd)), (sd, osd'), (cd, ocd'),
          (sn, instObj 225 ds), (ds, seenD w f1 (.ref T1')), (T1', MkTup [.int z' z1', .int o1 z2', .int c' z3']), (T2', MkTup [.int n'' y1', .int o2 y2'])] :=
  ⟨bq_, thrq_, recq_, w2q_, nq_, zq_, cq_, f2q_, c2q_, o1q_, o2q_, t2q_, t5q_, t6q_, x2q_, x3q_, y1q_, y2q_, z1q_, z2q_, z3q_, T1q_, T2q_, osdq_, ocdq_, np_, rfl, h0, h1, h2, h3, h4, h5, h6, h7, h8, h9, h10, h11, h12, h13, rfl⟩
set_option maxHeartbeats 32000000 in
theorem round_fU (prog : Program) (w : World) (sl way dw mk dm sd cd sn ds T1 : Addr) (osd ocd : Obj) (nS : Nat)
    (k1 k2 k3 k4 k5 k6 e1 e2 e3 e4 e5 e6 f1 t1 t2 t5 t6 x1 x2 x3 x4 y1 y2 z1 z2 z3 tn : Tok) (thr rec : Value) (met : Bool) (d win now : Int)
    (W : WaySt now win thr rec met) (hsd : osd.IsDictOf (strKind prog w) []) (los : (sd == sysModules) = false) (hcd : ocd.IsDictOf (strKind prog w) []) (loc : (cd == sysModules) = false)
    (hnd : AllApart [sl, way, dw, mk, dm, sd, cd, sn, ds, T1])
    (hd0 : 10 ≤ d) (hd1 : d < 50) (hw0 : 2 * d ≤ win) (hw1 : win < 500000)  (hnow : 0 ≤ now) (hnow1 : now < 50) :
    Spec prog w 24 250 [.ref sl, .int now tn, .bool false]
      [(sl, listOf #[.ref way, .ref mk, .ref sn] nS), (way, instObj 122 dw), (dw, wayD w k1 k2 k3 k4 k5 k6 (.int d t1) (.int win t2) thr rec (.int 0 t5) (.int 0 t6)),
        (mk, instObj 190 dm), (dm, ecnD w e1 e2 e3 e4 e5 e6 (.int 1 x1) (.str "testing" x2) (.int 0 x3) (.int 0 x4) (.ref sd) (.ref cd)), (sd, osd), (cd, ocd),
        (sn, instObj 225 ds), (ds, seenD w f1 (.ref T1)), (T1, MkTup [.int 0 z1, .int 0 z2, .int 0 z3])]
      (fun v A' => ∃ b thr' rec' w2 n' z' c' f2 c2 o1 o2 t2' t5' t6' x2' x3' y1' y2' z1' z2' z3' T1' T2' osd' ocd' n'', v = .bool b ∧ b = true ∧ w2 = win + (if met then d else win) ∧ WaySt (now + 2) w2 thr' rec' (met || false) ∧
        osd'.IsDictOf (strKind prog w) [("application", .ref T2')] ∧ ocd'.IsDictOf (strKind prog w) [("application", .ref T1')] ∧ n' = 0 + 1 ∧ n'' = z' + c' ∧ 0 ≤ z' ∧ 0 ≤ c' ∧ f2 = 0 ∧ c2 = 0 ∧ o1 = 0 ∧ (o2 = 0 ∧ n'' = n') ∧
        AllApart [sl, way, dw, mk, dm, sd, cd, sn, ds, T1', T2'] ∧
        A' = [(sl, listOf #[.ref way, .ref mk, .ref sn] nS), (way, instObj 122 dw), (dw, wayD w k1 k2 k3 k4 k5 k6 (.int d t1) (.int w2 t2') thr' rec' (.int f2 t5') (.int c2 t6')),
          (mk, instObj 190 dm), (dm, ecnD w e1 e2 e3 e4 e5 e6 (.int 1 x1) (.str "good" x2') (.int n' x3') (.int 0 x4) (.ref sd) (.ref cd)), (sd, osd'), (cd, ocd'),
          (sn, instObj 225 ds), (ds, seenD w f1 (.ref T1')), (T1', MkTup [.int z' z1', .int o1 z2', .int c' z3']), (T2', MkTup [.int n'' y1', .int o2 y2'])]) := by
  intro p loose mean mg mb dp un gd cn cs a ccd lc outer A₀ base h₀ L m s Q E rest B F X N NR hoff T hk hdp hun hret
  have hMk : KstMark := kstMark
  simp only [AllApart] at hnd
  obtain ⟨_, _, _, _, _, _, _, _, _, _, _⟩ := hnd
  refine wpAny_call ?_
  tb_start
  k_steps
  (all_goals (try k_data))
  all_goals (
    have eF : (if false = true then (1 : Int) else 0) = 0 := rfl
    have eT : (if true = true then (1 : Int) else 0) = 1 := rfl
    first
    | (exfalso; omega)
    | skip)
  all_goals (
    rename News h₀ L _ (_ :: _) => kN
    rename ∀ q ∈ rest, Heap.get? _ _ = some _ => hg
    refine' hret _ _ _ _ (round_mk ?hb ?hw ?hW ?hd1 ?hd2 ?hn1 ?hn2 ?hz1 ?hc1 ?hf ?hcr ?ho1 ?ho2 ?hap) (by k_asm) (kst_newsOf kN (mem11 ?m1 ?m2 ?m3 ?m4 ?m5 ?m6 ?m7 ?m8 ?m9 ?m10 ?m11)) (by k_asm) (news_off (all := _) ?hn ?ho hg)
    case m1 => k_mem
    case m2 => k_mem
    case m3 => k_mem
    case m4 => k_mem
    case m5 => k_mem
    case m6 => k_mem
    case m7 => k_mem
    case m8 => k_mem
    case m9 => k_mem
    case m10 => k_mem
    case hd1 => with_unfolding_all assumption
    case hd2 => with_unfolding_all assumption
    case m11 => k_mem
    case hn => k_asm
    case ho => lcg_sub
    case hb => exact beq_iff_eq.mpr (by omega)
    case hw => first | assumption | rfl | omega
    case hW => exact W.next (by omega) (by omega)
    case hn1 => first | rfl | omega
    case hn2 => omega
    case hz1 => omega
    case hc1 => omega
    case hf => omega
    case hcr => first | rfl | omega
    case ho1 => first | rfl | omega
    case ho2 => exact ⟨by first | rfl | omega, by omega⟩
    case hap => kd_subs)
set_option maxHeartbeats 32000000 in
theorem round_fM (prog : Program) (w : World) (sl way dw mk dm sd cd sn ds T1 : Addr) (osd ocd : Obj) (nS : Nat)
    (k1 k2 k3 k4 k5 k6 e1 e2 e3 e4 e5 e6 f1 t1 t2 t5 t6 x1 x2 x3 x4 y1 y2 z1 z2 z3 tn : Tok) (thr rec : Value) (met : Bool) (d win now : Int)
    (W : WaySt now win thr rec met) (hsd : osd.IsDictOf (strKind prog w) []) (los : (sd == sysModules) = false) (hcd : ocd.IsDictOf (strKind prog w) []) (loc : (cd == sysModules) = false)
    (hnd : AllApart [sl, way, dw, mk, dm, sd, cd, sn, ds, T1])
    (hd0 : 10 ≤ d) (hd1 : d < 50) (hw0 : 2 * d ≤ win) (hw1 : win < 500000)  (hnow : 0 ≤ now) (hnow1 : now < 50) :
    Spec prog w 24 250 [.ref sl, .int now tn, .bool true]
      [(sl, listOf #[.ref way, .ref mk, .ref sn] nS), (way, instObj 122 dw), (dw, wayD w k1 k2 k3 k4 k5 k6 (.int d t1) (.int win t2) thr rec (.int 0 t5) (.int 0 t6)),
        (mk, instObj 190 dm), (dm, ecnD w e1 e2 e3 e4 e5 e6 (.int 1 x1) (.str "testing" x2) (.int 0 x3) (.int 0 x4) (.ref sd) (.ref cd)), (sd, osd), (cd, ocd),
        (sn, instObj 225 ds), (ds, seenD w f1 (.ref T1)), (T1, MkTup [.int 0 z1, .int 0 z2, .int 0 z3])]
      (fun v A' => ∃ b thr' rec' w2 n' z' c' f2 c2 o1 o2 t2' t5' t6' x2' x3' y1' y2' z1' z2' z3' T1' T2' osd' ocd' n'', v = .bool b ∧ b = true ∧ w2 = max (win / 2) (2 * d) ∧ WaySt (now + 2) w2 thr' rec' (met || true) ∧
        osd'.IsDictOf (strKind prog w) [("application", .ref T2')] ∧ ocd'.IsDictOf (strKind prog w) [("application", .ref T1')] ∧ n' = 0 + 1 ∧ n'' = z' + c' ∧ 0 ≤ z' ∧ 0 ≤ c' ∧ f2 = 0 ∧ c2 = 0 ∧ o1 = 0 ∧ (o2 = 0 ∧ n'' = n') ∧
        AllApart [sl, way, dw, mk, dm, sd, cd, sn, ds, T1', T2'] ∧
        A' = [(sl, listOf #[.ref way, .ref mk, .ref sn] nS), (way, instObj 122 dw), (dw, wayD w k1 k2 k3 k4 k5 k6 (.int d t1) (.int w2 t2') thr' rec' (.int f2 t5') (.int c2 t6')),
          (mk, instObj 190 dm), (dm, ecnD w e1 e2 e3 e4 e5 e6 (.int 1 x1) (.str "good" x2') (.int n' x3') (.int 0 x4) (.ref sd) (.ref cd)), (sd, osd'), (cd, ocd'),
          (sn, instObj 225 ds), (ds, seenD w f1 (.ref T1')), (T1', MkTup [.int z' z1', .int o1 z2', .int c' z3']), (T2', MkTup [.int n'' y1', .int o2 y2'])]) := by
  intro p loose mean mg mb dp un gd cn cs a ccd lc outer A₀ base h₀ L m s Q E rest B F X N NR hoff T hk hdp hun hret
  have hMk : KstMark := kstMark
  simp only [AllApart] at hnd
  obtain ⟨_, _, _, _, _, _, _, _, _, _, _⟩ := hnd
  refine wpAny_call ?_
  tb_start
  k_steps
  (all_goals (try k_data))
  all_goals (
    have eF : (if false = true then (1 : Int) else 0) = 0 := rfl
    have eT : (if true = true then (1 : Int) else 0) = 1 := rfl
    first
    | (exfalso; omega)
    | skip)
  all_goals (
    rename News h₀ L _ (_ :: _) => kN
    rename ∀ q ∈ rest, Heap.get? _ _ = some _ => hg
    refine' hret _ _ _ _ (round_mk ?hb ?hw ?hW ?hd1 ?hd2 ?hn1 ?hn2 ?hz1 ?hc1 ?hf ?hcr ?ho1 ?ho2 ?hap) (by k_asm) (kst_newsOf kN (mem11 ?m1 ?m2 ?m3 ?m4 ?m5 ?m6 ?m7 ?m8 ?m9 ?m10 ?m11)) (by k_asm) (news_off (all := _) ?hn ?ho hg)
    case m1 => k_mem
    case m2 => k_mem
    case m3 => k_mem
    case m4 => k_mem
    case m5 => k_mem
    case m6 => k_mem
    case m7 => k_mem
    case m8 => k_mem
    case m9 => k_mem
    case m10 => k_mem
    case hd1 => with_unfolding_all assumption
    case hd2 => with_unfolding_all assumption
    case m11 => k_mem
    case hn => k_asm
    case ho => lcg_sub
    case hb => exact beq_iff_eq.mpr (by omega)
    case hw => first | assumption | rfl | omega
    case hW => (rw [Bool.or_true]; exact WaySt.met (by omega) (by omega))
    case hn1 => first | rfl | omega
    case hn2 => omega
    case hz1 => omega
    case hc1 => omega
    case hf => omega
    case hcr => first | rfl | omega
    case ho1 => first | rfl | omega
    case ho2 => exact ⟨by first | rfl | omega, by omega⟩
    case hap => kd_subs)
set_option maxHeartbeats 32000000 in
theorem round_lU (prog : Program) (w : World) (sl way dw mk dm sd cd sn ds T1 T2 : Addr) (osd ocd : Obj) (nS : Nat)
    (k1 k2 k3 k4 k5 k6 e1 e2 e3 e4 e5 e6 f1 t1 t2 t5 t6 x1 x2 x3 x4 y1 y2 z1 z2 z3 tn : Tok) (thr rec : Value) (met : Bool) (d win n z c now : Int)
    (W : WaySt now win thr rec met) (hsd : osd.IsDictOf (strKind prog w) [("application", .ref T2)]) (los : (sd == sysModules) = false) (hcd : ocd.IsDictOf (strKind prog w) [("application", .ref T1)]) (loc : (cd == sysModules) = false)
    (hnd : AllApart [sl, way, dw, mk, dm, sd, cd, sn, ds, T1, T2])
    (hd0 : 10 ≤ d) (hd1 : d < 50) (hw0 : 2 * d ≤ win) (hw1 : win < 500000) (hn : n = z + c) (hz : 0 ≤ z) (hc : 0 ≤ c) (hn1 : n < 20) (hn0 : 0 < n) (hnow : 0 ≤ now) (hnow1 : now < 50) :
    Spec prog w 24 250 [.ref sl, .int now tn, .bool false]
      [(sl, listOf #[.ref way, .ref mk, .ref sn] nS), (way, instObj 122 dw), (dw, wayD w k1 k2 k3 k4 k5 k6 (.int d t1) (.int win t2) thr rec (.int 0 t5) (.int 0 t6)),
        (mk, instObj 190 dm), (dm, ecnD w e1 e2 e3 e4 e5 e6 (.int 1 x1) (.str "good" x2) (.int n x3) (.int 0 x4) (.ref sd) (.ref cd)), (sd, osd), (cd, ocd),
        (sn, instObj 225 ds), (ds, seenD w f1 (.ref T1)), (T1, MkTup [.int z z1, .int 0 z2, .int c z3]), (T2, MkTup [.int n y1, .int 0 y2])]
      (fun v A' => ∃ b thr' rec' w2 n' z' c' f2 c2 o1 o2 t2' t5' t6' x2' x3' y1' y2' z1' z2' z3' T1' T2' osd' ocd' n'', v = .bool b ∧ b = true ∧ w2 = win + (if met then d else win) ∧ WaySt (now + 2) w2 thr' rec' (met || false) ∧
        osd'.IsDictOf (strKind prog w) [("application", .ref T2')] ∧ ocd'.IsDictOf (strKind prog w) [("application", .ref T1')] ∧ n' = n + 1 ∧ n'' = z' + c' ∧ 0 ≤ z' ∧ 0 ≤ c' ∧ f2 = 0 ∧ c2 = 0 ∧ o1 = 0 ∧ (o2 = 0 ∧ n'' = n') ∧
        AllApart [sl, way, dw, mk, dm, sd, cd, sn, ds, T1', T2'] ∧
        A' = [(sl, listOf #[.ref way, .ref mk, .ref sn] nS), (way, instObj 122 dw), (dw, wayD w k1 k2 k3 k4 k5 k6 (.int d t1) (.int w2 t2') thr' rec' (.int f2 t5') (.int c2 t6')),
          (mk, instObj 190 dm), (dm, ecnD w e1 e2 e3 e4 e5 e6 (.int 1 x1) (.str "good" x2') (.int n' x3') (.int 0 x4) (.ref sd) (.ref cd)), (sd, osd'), (cd, ocd'),
          (sn, instObj 225 ds), (ds, seenD w f1 (.ref T1')), (T1', MkTup [.int z' z1', .int o1 z2', .int c' z3']), (T2', MkTup [.int n'' y1', .int o2 y2'])]) := by
  intro p loose mean mg mb dp un gd cn cs a ccd lc outer A₀ base h₀ L m s Q E rest B F X N NR hoff T hk hdp hun hret
  have hMk : KstMark := kstMark
  simp only [AllApart] at hnd
  obtain ⟨_, _, _, _, _, _, _, _, _, _, _, _⟩ := hnd
  refine wpAny_call ?_
  tb_start
  k_steps
  (all_goals (try k_data))
  all_goals (
    have eF : (if false = true then (1 : Int) else 0) = 0 := rfl
    have eT : (if true = true then (1 : Int) else 0) = 1 := rfl
    first
    | (exfalso; omega)
    | skip)
  all_goals (
    rename News h₀ L _ (_ :: _) => kN
    rename ∀ q ∈ rest, Heap.get? _ _ = some _ => hg
    refine' hret _ _ _ _ (round_mk ?hb ?hw ?hW ?hd1 ?hd2 ?hn1 ?hn2 ?hz1 ?hc1 ?hf ?hcr ?ho1 ?ho2 ?hap) (by k_asm) (kst_newsOf kN (mem11 ?m1 ?m2 ?m3 ?m4 ?m5 ?m6 ?m7 ?m8 ?m9 ?m10 ?m11)) (by k_asm) (news_off (all := _) ?hn ?ho hg)
    case m1 => k_mem
    case m2 => k_mem
    case m3 => k_mem
    case m4 => k_mem
    case m5 => k_mem
    case m6 => k_mem
    case m7 => k_mem
    case m8 => k_mem
    case m9 => k_mem
    case m10 => k_mem
    case hd1 => with_unfolding_all assumption
    case hd2 => with_unfolding_all assumption
    case m11 => k_mem
    case hn => k_asm
    case ho => lcg_sub
    case hb => exact beq_iff_eq.mpr (by omega)
    case hw => first | assumption | rfl | omega
    case hW => exact W.next (by omega) (by omega)
    case hn1 => first | rfl | omega
    case hn2 => omega
    case hz1 => omega
    case hc1 => omega
    case hf => omega
    case hcr => first | rfl | omega
    case ho1 => first | rfl | omega
    case ho2 => exact ⟨by first | rfl | omega, by omega⟩
    case hap => kd_subs)
set_option maxHeartbeats 32000000 in
theorem round_lM (prog : Program) (w : World) (sl way dw mk dm sd cd sn ds T1 T2 : Addr) (osd ocd : Obj) (nS : Nat)
    (k1 k2 k3 k4 k5 k6 e1 e2 e3 e4 e5 e6 f1 t1 t2 t5 t6 x1 x2 x3 x4 y1 y2 z1 z2 z3 tn : Tok) (thr rec : Value) (met : Bool) (d win n z c now : Int)
    (W : WaySt now win thr rec met) (hsd : osd.IsDictOf (strKind prog w) [("application", .ref T2)]) (los : (sd == sysModules) = false) (hcd : ocd.IsDictOf (strKind prog w) [("application", .ref T1)]) (loc : (cd == sysModules) = false)
    (hnd : AllApart [sl, way, dw, mk, dm, sd, cd, sn, ds, T1, T2])
    (hd0 : 10 ≤ d) (hd1 : d < 50) (hw0 : 2 * d ≤ win) (hw1 : win < 500000) (hn : n = z + c) (hz : 0 ≤ z) (hc : 0 ≤ c) (hn1 : n < 20) (hn0 : 0 < n) (hnow : 0 ≤ now) (hnow1 : now < 50) :
    Spec prog w 24 250 [.ref sl, .int now tn, .bool true]
      [(sl, listOf #[.ref way, .ref mk, .ref sn] nS), (way, instObj 122 dw), (dw, wayD w k1 k2 k3 k4 k5 k6 (.int d t1) (.int win t2) thr rec (.int 0 t5) (.int 0 t6)),
        (mk, instObj 190 dm), (dm, ecnD w e1 e2 e3 e4 e5 e6 (.int 1 x1) (.str "good" x2) (.int n x3) (.int 0 x4) (.ref sd) (.ref cd)), (sd, osd), (cd, ocd),
        (sn, instObj 225 ds), (ds, seenD w f1 (.ref T1)), (T1, MkTup [.int z z1, .int 0 z2, .int c z3]), (T2, MkTup [.int n y1, .int 0 y2])]
      (fun v A' => ∃ b thr' rec' w2 n' z' c' f2 c2 o1 o2 t2' t5' t6' x2' x3' y1' y2' z1' z2' z3' T1' T2' osd' ocd' n'', v = .bool b ∧ b = true ∧ w2 = max (win / 2) (2 * d) ∧ WaySt (now + 2) w2 thr' rec' (met || true) ∧
        osd'.IsDictOf (strKind prog w) [("application", .ref T2')] ∧ ocd'.IsDictOf (strKind prog w) [("application", .ref T1')] ∧ n' = n + 1 ∧ n'' = z' + c' ∧ 0 ≤ z' ∧ 0 ≤ c' ∧ f2 = 0 ∧ c2 = 0 ∧ o1 = 0 ∧ (o2 = 0 ∧ n'' = n') ∧
        AllApart [sl, way, dw, mk, dm, sd, cd, sn, ds, T1', T2'] ∧
        A' = [(sl, listOf #[.ref way, .ref mk, .ref sn] nS), (way, instObj 122 dw), (dw, wayD w k1 k2 k3 k4 k5 k6 (.int d t1) (.int w2 t2') thr' rec' (.int f2 t5') (.int c2 t6')),
          (mk, instObj 190 dm), (dm, ecnD w e1 e2 e3 e4 e5 e6 (.int 1 x1) (.str "good" x2') (.int n' x3') (.int 0 x4) (.ref sd) (.ref cd)), (sd, osd'), (cd, ocd'),
          (sn, instObj 225 ds), (ds, seenD w f1 (.ref T1')), (T1', MkTup [.int z' z1', .int o1 z2', .int c' z3']), (T2', MkTup [.int n'' y1', .int o2 y2'])]) := by
  intro p loose mean mg mb dp un gd cn cs a ccd lc outer A₀ base h₀ L m s Q E rest B F X N NR hoff T hk hdp hun hret
  have hMk : KstMark := kstMark
  simp only [AllApart] at hnd
  obtain ⟨_, _, _, _, _, _, _, _, _, _, _, _⟩ := hnd
  refine wpAny_call ?_
  tb_start
  k_steps
  (all_goals (try k_data))
  all_goals (
    have eF : (if false = true then (1 : Int) else 0) = 0 := rfl
    have eT : (if true = true then (1 : Int) else 0) = 1 := rfl
    first
    | (exfalso; omega)
    | skip)
  all_goals (
    rename News h₀ L _ (_ :: _) => kN
    rename ∀ q ∈ rest, Heap.get? _ _ = some _ => hg
    refine' hret _ _ _ _ (round_mk ?hb ?hw ?hW ?hd1 ?hd2 ?hn1 ?hn2 ?hz1 ?hc1 ?hf ?hcr ?ho1 ?ho2 ?hap) (by k_asm) (kst_newsOf kN (mem11 ?m1 ?m2 ?m3 ?m4 ?m5 ?m6 ?m7 ?m8 ?m9 ?m10 ?m11)) (by k_asm) (news_off (all := _) ?hn ?ho hg)
    case m1 => k_mem
    case m2 => k_mem
    case m3 => k_mem
    case m4 => k_mem
    case m5 => k_mem
    case m6 => k_mem
    case m7 => k_mem
    case m8 => k_mem
    case m9 => k_mem
    case m10 => k_mem
    case hd1 => with_unfolding_all assumption
    case hd2 => with_unfolding_all assumption
    case m11 => k_mem
    case hn => k_asm
    case ho => lcg_sub
    case hb => exact beq_iff_eq.mpr (by omega)
    case hw => first | assumption | rfl | omega
    case hW => (rw [Bool.or_true]; exact WaySt.met (by omega) (by omega))
    case hn1 => first | rfl | omega
    case hn2 => omega
    case hz1 => omega
    case hc1 => omega
    case hf => omega
    case hcr => first | rfl | omega
    case ho1 => first | rfl | omega
    case ho2 => exact ⟨by first | rfl | omega, by omega⟩
    case hap => kd_subs)
end

/- Sys -/
section
/-- what stays of a sender: its addresses, its keys' tokens -/
structure SF where
  sl : Addr
  way : Addr
  dw : Addr
  mq : Addr
  dm : Addr
  sd : Addr
  cd : Addr
  sn : Addr
  ds : Addr
  nS : Nat
  k1 : Tok
  k2 : Tok
  k3 : Tok
  k4 : Tok
  k5 : Tok
  k6 : Tok
  e1 : Tok
  e2 : Tok
  e3 : Tok
  e4 : Tok
  e5 : Tok
  e6 : Tok
  f1 : Tok
  t1 : Tok
  x1 : Tok
  x4 : Tok
/-- what is read of it between rounds -/
def SF.eye (S : SF) (w : World) (d win : Int) (thr rec : Value) (t2 t5 t6 : Tok) : List (Addr × Obj) :=
  [(S.sl, PySem.W.listOf #[.ref S.way, .ref S.mq, .ref S.sn] S.nS), (S.way, instObj 122 S.dw), (S.dw, wayD w S.k1 S.k2 S.k3 S.k4 S.k5 S.k6 (.int d S.t1) (.int win t2) thr rec (.int 0 t5) (.int 0 t6))]
def SF.ears (S : SF) (w : World) (st : Str) (n z c : Int) (osd ocd : Obj) (T1 : Addr) (x2 x3 z1 z2 z3 : Tok) : List (Addr × Obj) :=
  [(S.mq, instObj 190 S.dm), (S.dm, ecnD w S.e1 S.e2 S.e3 S.e4 S.e5 S.e6 (.int 1 S.x1) (.str st x2) (.int n x3) (.int 0 S.x4) (.ref S.sd) (.ref S.cd)), (S.sd, osd), (S.cd, ocd),
    (S.sn, instObj 225 S.ds), (S.ds, seenD w S.f1 (.ref T1)), (T1, MkTup [.int z z1, .int 0 z2, .int c z3])]
/-- a sender between rounds: n rounds behind it -/
inductive Snd (prog : Program) (w : World) (S : SF) (d now win : Int) (met : Bool) : Int → List (Addr × Obj) → Prop
  | first {thr rec : Value} {t2 t5 t6 x2 x3 z1 z2 z3 : Tok} {osd ocd : Obj} {T1 : Addr} :
    WaySt now win thr rec met → osd.IsDictOf (strKind prog w) [] → (S.sd == sysModules) = false → ocd.IsDictOf (strKind prog w) [] → (S.cd == sysModules) = false →
    AllApart [S.sl, S.way, S.dw, S.mq, S.dm, S.sd, S.cd, S.sn, S.ds, T1] →
    Snd prog w S d now win met 0 (S.eye w d win thr rec t2 t5 t6 ++ S.ears w "testing" 0 0 0 osd ocd T1 x2 x3 z1 z2 z3)
  | later {n z c : Int} {thr rec : Value} {t2 t5 t6 x2 x3 z1 z2 z3 y1 y2 : Tok} {osd ocd : Obj} {T1 T2 : Addr} :
    WaySt now win thr rec met → osd.IsDictOf (strKind prog w) [("application", .ref T2)] → (S.sd == sysModules) = false → ocd.IsDictOf (strKind prog w) [("application", .ref T1)] → (S.cd == sysModules) = false →
    AllApart [S.sl, S.way, S.dw, S.mq, S.dm, S.sd, S.cd, S.sn, S.ds, T1, T2] → n = z + c → 0 ≤ z → 0 ≤ c → 0 < n →
    Snd prog w S d now win met n (S.eye w d win thr rec t2 t5 t6 ++ (S.ears w "good" n z c osd ocd T1 x2 x3 z1 z2 z3 ++ [(T2, MkTup [.int n y1, .int 0 y2])]))

def step (d win : Int) (met b : Bool) : Int := if b then max (win / 2) (2 * d) else win + (if met then d else win)

theorem Snd.step {prog : Program} {w : World} {S : SF} {d now win n : Int} {met b : Bool} {tn : Tok} {A : List (Addr × Obj)} (H : Snd prog w S d now win met n A)
    (hd0 : 10 ≤ d) (hd1 : d < 50) (hw0 : 2 * d ≤ win) (hw1 : win < 500000) (hn1 : n < 20) (hnow : 0 ≤ now) (hnow1 : now < 50) :
    Spec prog w 24 250 [.ref S.sl, .int now tn, .bool b] A (fun v A' => v = .bool true ∧ Snd prog w S d (now + 2) (Mine.step d win met b) (met || b) (n + 1) A') := by
  have fin : ∀ {n : Int} {v : Value} {A' : List (Addr × Obj)}, 0 ≤ n →
      (∃ b' thr' rec' w2 n' z' c' f2 c2 o1 o2 t2' t5' t6' x2' x3' y1' y2' z1' z2' z3' T1' T2' osd' ocd' n'', v = .bool b' ∧ b' = true ∧ w2 = (if b then max (win / 2) (2 * d) else win + (if met then d else win)) ∧ WaySt (now + 2) w2 thr' rec' (met || b) ∧
        osd'.IsDictOf (strKind prog w) [("application", .ref T2')] ∧ ocd'.IsDictOf (strKind prog w) [("application", .ref T1')] ∧ n' = n + 1 ∧ n'' = z' + c' ∧ 0 ≤ z' ∧ 0 ≤ c' ∧ f2 = 0 ∧ c2 = 0 ∧ o1 = 0 ∧ (o2 = 0 ∧ n'' = n') ∧
        AllApart [S.sl, S.way, S.dw, S.mq, S.dm, S.sd, S.cd, S.sn, S.ds, T1', T2'] ∧
        A' = [(S.sl, PySem.W.listOf #[.ref S.way, .ref S.mq, .ref S.sn] S.nS), (S.way, instObj 122 S.dw), (S.dw, wayD w S.k1 S.k2 S.k3 S.k4 S.k5 S.k6 (.int d S.t1) (.int w2 t2') thr' rec' (.int f2 t5') (.int c2 t6')),
          (S.mq, instObj 190 S.dm), (S.dm, ecnD w S.e1 S.e2 S.e3 S.e4 S.e5 S.e6 (.int 1 S.x1) (.str "good" x2') (.int n' x3') (.int 0 S.x4) (.ref S.sd) (.ref S.cd)), (S.sd, osd'), (S.cd, ocd'),
          (S.sn, instObj 225 S.ds), (S.ds, seenD w S.f1 (.ref T1')), (T1', MkTup [.int z' z1', .int o1 z2', .int c' z3']), (T2', MkTup [.int n'' y1', .int o2 y2'])]) →
      (S.sd == sysModules) = false → (S.cd == sysModules) = false → v = .bool true ∧ Snd prog w S d (now + 2) (Mine.step d win met b) (met || b) (n + 1) A' := by
    rintro n v A' hn ⟨b', thr', rec', w2, n', z', c', f2, c2, o1, o2, t2', t5', t6', x2', x3', y1', y2', z1', z2', z3', T1', T2', osd', ocd', n'', rfl, rfl, rfl, hW, hd1, hd2, rfl, hnz, hz, hc, rfl, rfl, rfl, ⟨rfl, rfl⟩, hap, rfl⟩ los loc
    exact ⟨rfl, Snd.later hW hd1 los hd2 loc hap hnz hz hc (by omega)⟩
  cases H with
  | first W h1 los h2 loc hap =>
    cases b with
    | false => exact spec_mono (round_fU prog w S.sl S.way S.dw S.mq S.dm S.sd S.cd S.sn S.ds _ _ _ S.nS S.k1 S.k2 S.k3 S.k4 S.k5 S.k6 S.e1 S.e2 S.e3 S.e4 S.e5 S.e6 S.f1 S.t1 _ _ _ S.x1 _ _ S.x4 0 0 _ _ _ tn _ _ met d win now W h1 los h2 loc hap hd0 hd1 hw0 hw1 hnow hnow1) (fun v A' hp => fin (Int.le_refl 0) hp los loc)
    | true => exact spec_mono (round_fM prog w S.sl S.way S.dw S.mq S.dm S.sd S.cd S.sn S.ds _ _ _ S.nS S.k1 S.k2 S.k3 S.k4 S.k5 S.k6 S.e1 S.e2 S.e3 S.e4 S.e5 S.e6 S.f1 S.t1 _ _ _ S.x1 _ _ S.x4 0 0 _ _ _ tn _ _ met d win now W h1 los h2 loc hap hd0 hd1 hw0 hw1 hnow hnow1) (fun v A' hp => fin (Int.le_refl 0) hp los loc)
  | later W h1 los h2 loc hap hn hz hc hn0 =>
    cases b with
    | false => exact spec_mono (round_lU prog w S.sl S.way S.dw S.mq S.dm S.sd S.cd S.sn S.ds _ _ _ _ S.nS S.k1 S.k2 S.k3 S.k4 S.k5 S.k6 S.e1 S.e2 S.e3 S.e4 S.e5 S.e6 S.f1 S.t1 _ _ _ S.x1 _ _ S.x4 _ _ _ _ _ tn _ _ met d win _ _ _ now W h1 los h2 loc hap hd0 hd1 hw0 hw1 hn hz hc hn1 hn0 hnow hnow1) (fun v A' hp => fin (Int.le_of_lt hn0) hp los loc)
    | true => exact spec_mono (round_lM prog w S.sl S.way S.dw S.mq S.dm S.sd S.cd S.sn S.ds _ _ _ _ S.nS S.k1 S.k2 S.k3 S.k4 S.k5 S.k6 S.e1 S.e2 S.e3 S.e4 S.e5 S.e6 S.f1 S.t1 _ _ _ S.x1 _ _ S.x4 _ _ _ _ _ tn _ _ met d win _ _ _ now W h1 los h2 loc hap hd0 hd1 hw0 hw1 hn hz hc hn1 hn0 hnow hnow1) (fun v A' hp => fin (Int.le_of_lt hn0) hp los loc)

def Off2 (A B : List (Addr × Obj)) : Prop := ∀ q ∈ A, ∀ r ∈ B, q.1 ≠ r.1
theorem Off2.symm {A B : List (Addr × Obj)} (h : Off2 A B) : Off2 B A := fun q hq r hr e => h r hr q hq e.symm

theorem Spec.frame {prog : Program} {w : World} {dn : Nat} {f : Addr} {args : List Value} {A B Y : List (Addr × Obj)} {P : Value → List (Addr × Obj) → Prop} (mk : List (Addr × Obj) → List (Addr × Obj)) (C : Spec prog w dn f args A P)
    (hY : Y = mk A) (hmk : ∀ A' q, q ∈ mk A' ↔ q ∈ A' ∨ q ∈ B) (off : Off2 A B) : Spec prog w dn f args Y (fun v Y' => ∃ A', P v A' ∧ Off2 A' B ∧ Y' = mk A') := by
  subst hY
  intro p loose mean mg mb dp un gd cn cs a ccd lc outer A₀ base h₀ L m s Q E rest B' F X N NR hoff T hk hdp hun hret
  refine C p loose mean mg mb dp un gd cn cs a ccd lc outer A₀ base h₀ L m s Q E (B ++ rest) B' F X (fun q hq => N q ((hmk A q).mpr (.inl hq)))
    (news_app (fun q hq => N q ((hmk A q).mpr (.inr hq))) NR) ?_ T hk hdp hun ?_
  · intro q hq hm
    obtain ⟨r, hr, e⟩ := List.mem_map.mp hm
    rcases List.mem_append.mp hq with hq | hq
    · exact off r hr q hq e
    · exact hoff q hq (List.mem_map.mpr ⟨r, (hmk A r).mpr (.inl hr), e⟩)
  · intro v A' h' tk' hp F' N' NR' o'
    refine hret v (mk A') h' tk' ⟨A', hp, fun q hq r hr => o' q hq r (List.mem_append.mpr (.inl hr)), rfl⟩ F' ?_ (fun q hq => NR' q (List.mem_append.mpr (.inr hq))) ?_
    · intro q hq
      rcases (hmk A' q).mp hq with hq | hq
      · exact N' q hq
      · exact NR' q (List.mem_append.mpr (.inl hq))
    · intro q hq r hr
      rcases (hmk A' q).mp hq with hq | hq
      · exact o' q hq r (List.mem_append.mpr (.inr hr))
      · exact fun e => hoff r hr (List.mem_map.mpr ⟨q, (hmk A q).mpr (.inr hq), e⟩)

/-- one sender's state, as the law sees it -/
structure SS where
  now : Int
  win : Int
  met : Bool
  n : Int
/-- the three senders, as one ledger -/
def Sys (prog : Program) (w : World) (d : Int) (S0 S1 S2 : SF) (a b c : SS) (Y : List (Addr × Obj)) : Prop :=
  ∃ L0 L1 L2, Snd prog w S0 d a.now a.win a.met a.n L0 ∧ Snd prog w S1 d b.now b.win b.met b.n L1 ∧ Snd prog w S2 d c.now c.win c.met c.n L2 ∧ Off2 L0 L1 ∧ Off2 L0 L2 ∧ Off2 L1 L2 ∧ Y = L0 ++ (L1 ++ L2)
def SS.go (d : Int) (s : SS) (b : Bool) : SS := ⟨s.now + 2, step d s.win s.met b, s.met || b, s.n + 1⟩
structure SS.Ok (d : Int) (s : SS) : Prop where
  lo : 2 * d ≤ s.win
  hi : s.win < 500000
  n1 : s.n < 20
  now0 : 0 ≤ s.now
  now1 : s.now < 50
section
variable {prog : Program} {w : World} {d : Int} {S0 S1 S2 : SF} {a b c : SS} {Y : List (Addr × Obj)} {m : Bool} {tn : Tok}
theorem Sys.go0 (H : Sys prog w d S0 S1 S2 a b c Y) (hd0 : 10 ≤ d) (hd1 : d < 50) (ok : a.Ok d) :
    Spec prog w 24 250 [.ref S0.sl, .int a.now tn, .bool m] Y (fun v Y' => v = .bool true ∧ Sys prog w d S0 S1 S2 (a.go d m) b c Y') := by
  obtain ⟨L0, L1, L2, h0, h1, h2, o01, o02, o12, rfl⟩ := H
  have C := Spec.frame (B := L1 ++ L2) (fun A => A ++ (L1 ++ L2)) (h0.step (tn := tn) (b := m) hd0 hd1 ok.lo ok.hi ok.n1 ok.now0 ok.now1) rfl (fun _ _ => List.mem_append) (fun q hq r hr => (List.mem_append.mp hr).elim (o01 q hq r) (o02 q hq r))
  refine spec_mono C ?_
  rintro v Y' ⟨A', ⟨hv, hA⟩, o, rfl⟩
  exact ⟨hv, A', L1, L2, hA, h1, h2, (fun q hq r hr => o q hq r (List.mem_append.mpr (.inl hr))), (fun q hq r hr => o q hq r (List.mem_append.mpr (.inr hr))), o12, rfl⟩
theorem Sys.go1 (H : Sys prog w d S0 S1 S2 a b c Y) (hd0 : 10 ≤ d) (hd1 : d < 50) (ok : b.Ok d) :
    Spec prog w 24 250 [.ref S1.sl, .int b.now tn, .bool m] Y (fun v Y' => v = .bool true ∧ Sys prog w d S0 S1 S2 a (b.go d m) c Y') := by
  obtain ⟨L0, L1, L2, h0, h1, h2, o01, o02, o12, rfl⟩ := H
  have C := Spec.frame (B := L0 ++ L2) (fun A => L0 ++ (A ++ L2)) (h1.step (tn := tn) (b := m) hd0 hd1 ok.lo ok.hi ok.n1 ok.now0 ok.now1) rfl (by intro A q; rw [List.mem_append, List.mem_append, List.mem_append]; exact or_left_comm) (fun q hq r hr => (List.mem_append.mp hr).elim (o01.symm q hq r) (o12 q hq r))
  refine spec_mono C ?_
  rintro v Y' ⟨A', ⟨hv, hA⟩, o, rfl⟩
  exact ⟨hv, L0, A', L2, h0, hA, h2, (fun q hq r hr e => o r hr q (List.mem_append.mpr (.inl hq)) e.symm), o02, (fun q hq r hr => o q hq r (List.mem_append.mpr (.inr hr))), rfl⟩
theorem Sys.go2 (H : Sys prog w d S0 S1 S2 a b c Y) (hd0 : 10 ≤ d) (hd1 : d < 50) (ok : c.Ok d) :
    Spec prog w 24 250 [.ref S2.sl, .int c.now tn, .bool m] Y (fun v Y' => v = .bool true ∧ Sys prog w d S0 S1 S2 a b (c.go d m) Y') := by
  obtain ⟨L0, L1, L2, h0, h1, h2, o01, o02, o12, rfl⟩ := H
  have C := Spec.frame (B := L0 ++ L1) (fun A => L0 ++ (L1 ++ A)) (h2.step (tn := tn) (b := m) hd0 hd1 ok.lo ok.hi ok.n1 ok.now0 ok.now1) rfl (by intro A q; rw [List.mem_append, List.mem_append, List.mem_append, ← or_assoc]; exact or_comm) (fun q hq r hr => (List.mem_append.mp hr).elim (o02.symm q hq r) (o12.symm q hq r))
  refine spec_mono C ?_
  rintro v Y' ⟨A', ⟨hv, hA⟩, o, rfl⟩
  exact ⟨hv, L0, L1, A', h0, h1, hA, o01, (fun q hq r hr e => o r hr q (List.mem_append.mpr (.inl hq)) e.symm), (fun q hq r hr e => o r hr q (List.mem_append.mpr (.inr hq)) e.symm), rfl⟩
end
end

/- Law -/
section
/-- the law's own statements and scope, read off the program -/
def lawDef : Option (List Stmt × Scope) := match PySem.Challenge.pw_tk0095_01.main.body.getLast? with
  | some (.FunctionDef _ _ b _ _ _ sc _ _ _) => some (b, sc)
  | _ => none
/-- the first loop's turn among some statements -/
def turnOf : List Stmt → Option (List Stmt)
  | [] => none
  | .For _ _ b _ _ :: _ => some b
  | _ :: r => turnOf r
def lawTurn : Option (List Stmt × Scope) := lawDef.bind fun p => (turnOf p.1).map fun b => (b, p.2)
def lawPlace : Option (List Stmt × Scope) := lawTurn.bind fun p => (turnOf p.1).map fun b => (b, p.2)
theorem lawPlace_is : ∃ b sc, lawPlace = some (b, sc) := ⟨_, _, rfl⟩

inductive Pull (Y : List (Addr × Obj)) : List (Addr × Obj) → List (Addr × Obj) → (List (Addr × Obj) → List (Addr × Obj)) → Prop
  | here {own} : Pull Y (own ++ Y) own (fun Z => own ++ Z)
  | tail {q r v g} : Pull Y r v g → Pull Y (q :: r) (q :: v) (fun Z => q :: g Z)
theorem Pull.mem {Y news v : List (Addr × Obj)} {g : List (Addr × Obj) → List (Addr × Obj)} (P : Pull Y news v g) : (∀ q, q ∈ Y → q ∈ news) ∧ (∀ q, q ∈ v → q ∈ news) ∧ ∀ Z q, q ∈ g Z → q ∈ Z ∨ q ∈ v := by
  induction P with
  | here => exact ⟨fun q h => List.mem_append.mpr (.inr h), fun q h => List.mem_append.mpr (.inl h), fun Z q h => (List.mem_append.mp h).symm⟩
  | tail _ ih =>
    refine ⟨fun q h => .tail _ (ih.1 q h), fun q h => ?_, fun Z q h => ?_⟩
    · rcases List.mem_cons.mp h with rfl | h
      · exact .head _
      · exact .tail _ (ih.2.1 q h)
    · rcases List.mem_cons.mp h with rfl | h
      · exact .inr (.head _)
      · exact (ih.2.2 Z q h).imp id (List.Mem.tail _)
theorem sys_use {prog : Program} {w : World} {dn : Nat} {f : Addr} {args : List Value} {Y : List (Addr × Obj)} {Post : Value → List (Addr × Obj) → Prop}
    {p : Program} {loose : List Str} {mean : ExcName → Option Value} {mg mb : Str → Option Value} {dp un : Nat} {gd : Option (List Code)} {cn : Str} {cs : Scope} {a : Addr} {ccd : Value} {lc : List (Str × Addr)} {outer : List Env}
    {A₀ : Around} {base h₀ : Heap} {L : Addr} {m : Str → Option Value} {s : Shared} {Q E : Value → Shared → Prop} {news v : List (Addr × Obj)} {g : List (Addr × Obj) → List (Addr × Obj)}
    (B : Below A₀ base outer h₀) (F : Fr h₀ L s.heap m) (X : (hd.heap_1 w.params).In h₀) (N : News h₀ L s.heap news) (T : Top p loose mean mg mb h₀) (hk : cs.kind = .function)
    (P : Pull Y news v g) (S : Spec prog w dn f args Y Post) (off : ∀ q ∈ v, ∀ r ∈ Y, q.1 ≠ r.1) (hdp : dp + dn < recursionLimit) (hun : un + 8 * dn < cLine)
    (ret : ∀ val Y' h' tk', Post val Y' → Fr h₀ L h' m → News h₀ L h' (g Y') → OwnOff Y' (v.map (·.1)) → Q val { s with heap := h', toks := tk' }) :
    wpAny (model prog w) (ktrTop dp un gd cn cs L a ccd lc outer) (call (.ref f) args) Q E s :=
  S _ _ _ _ _ _ _ _ _ _ _ _ _ _ _ _ _ _ _ _ _ _ v B F X (fun q hq => N q (P.mem.1 q hq)) (fun q hq => N q (P.mem.2.1 q hq))
    (fun q hq hm => by obtain ⟨r, hr, e⟩ := List.mem_map.mp hm; exact off q hq r hr e.symm) T hk hdp hun
    fun val Y' h' tk' hP F' N' NR' o => ret val Y' h' tk' hP F' (fun q hq => (P.mem.2.2 Y' q hq).elim (N' q) (NR' q)) (fun q hq b hb => by
      obtain ⟨r, hr, rfl⟩ := List.mem_map.mp hb
      exact o q hq r hr)
theorem offOf {Y : List (Addr × Obj)} {adr : List Addr} {a : Addr} (h : OwnOff Y adr) (m : a ∈ adr) : ∀ r ∈ Y, a ≠ r.1 := fun r hr e => h r hr a m e.symm
section
variable {prog : Program} {w : World} {d nw : Int} {S0 S1 S2 : SF} {a b c : SS} {Y : List (Addr × Obj)} {m : Bool} {tn : Tok}
theorem Sys.at0 (H : Sys prog w d S0 S1 S2 a b c Y) (hd0 : 10 ≤ d) (hd1 : d < 50) (ok : a.Ok d) (hn : a.now = nw) :
    Spec prog w 24 250 [.ref S0.sl, .int nw tn, .bool m] Y (fun v Y' => v = .bool true ∧ Sys prog w d S0 S1 S2 (a.go d m) b c Y') := by subst hn; exact H.go0 hd0 hd1 ok
theorem Sys.at1 (H : Sys prog w d S0 S1 S2 a b c Y) (hd0 : 10 ≤ d) (hd1 : d < 50) (ok : b.Ok d) (hn : b.now = nw) :
    Spec prog w 24 250 [.ref S1.sl, .int nw tn, .bool m] Y (fun v Y' => v = .bool true ∧ Sys prog w d S0 S1 S2 a (b.go d m) c Y') := by subst hn; exact H.go1 hd0 hd1 ok
theorem Sys.at2 (H : Sys prog w d S0 S1 S2 a b c Y) (hd0 : 10 ≤ d) (hd1 : d < 50) (ok : c.Ok d) (hn : c.now = nw) :
    Spec prog w 24 250 [.ref S2.sl, .int nw tn, .bool m] Y (fun v Y' => v = .bool true ∧ Sys prog w d S0 S1 S2 a b (c.go d m) Y') := by subst hn; exact H.go2 hd0 hd1 ok
end
theorem half_is0 (x d : Int) : (if 2 * d > x.fdiv 2 then 2 * d else x.fdiv 2) = max (x / 2) (2 * d) := by
  rw [Int.fdiv_eq_ediv_of_nonneg _ (by omega)]
  split <;> omega
theorem step_t {d u : Int} {b m : Bool} (h : m = true) : step d u b m = max (u / 2) (2 * d) := by subst h; rfl
theorem step_m {d u : Int} {b m : Bool} (h : m = false) (hb : b = true) : step d u b m = u + d := by subst h hb; rfl
theorem step_u {d u : Int} {b m : Bool} (h : m = false) (hb : b = false) : step d u b m = u + u := by subst h hb; rfl
theorem off_cut {Y own : List (Addr × Obj)} {a1 a2 a3 a4 a5 a6 : Addr} (h : OwnOff Y (a1 :: a2 :: a3 :: a4 :: a5 :: a6 :: own.map (·.1))) : OwnOff Y [a1, a2, a3, a4, a5, a6] ∧ ∀ q ∈ own, ∀ r ∈ Y, q.1 ≠ r.1 := by
  refine ⟨fun q hq b hb => h q hq b ?_, fun q hq r hr e => h r hr q.1 ?_ e.symm⟩
  · have : (a1 :: a2 :: a3 :: a4 :: a5 :: a6 :: own.map (·.1)) = [a1, a2, a3, a4, a5, a6] ++ own.map (·.1) := rfl
    rw [this]; exact List.mem_append.mpr (.inl hb)
  · have : (a1 :: a2 :: a3 :: a4 :: a5 :: a6 :: own.map (·.1)) = [a1, a2, a3, a4, a5, a6] ++ own.map (·.1) := rfl
    rw [this]; exact List.mem_append.mpr (.inr (List.mem_map.mpr ⟨q, hq, rfl⟩))
theorem news_drop {h₀ h : Heap} {L : Addr} {q : Addr × Obj} {l : List (Addr × Obj)} (N : News h₀ L h (q :: l)) : News h₀ L h l := fun r hr => N r (.tail _ hr)
end

/- Places -/
section
local macro_rules | `(tactic| kd_adr) => `(tactic| first | exact Pull.here | (refine' Pull.tail ?a; (case a => kd_adr)))
local macro_rules | `(tactic| walk_at "call ref") => `(tactic| (k_here; (with_reducible show wpAny _ _ (call (Value.ref 250) [Value.ref _, Value.int _ _, Value.bool _]) _ _ _); k_dflt (refine' sys_use ?B ?F ?X ?N ?T ?hk ?P (Sys.at0 ?g1 ?g2 ?g3 ?g4 ?g5) ?off ?dp ?un ?_; (case B | F | X | N | T => k_asm); (case hk => exact rfl); (case P => kd_adr); (case g1 | g2 | g3 | g4 | g5 => assumption); (case off => kd_facts1); (case dp => ktr_room); (case un => ktr_units); k_whole); intro v' Y' h' tk' P' F' N' off'; obtain ⟨hv', hS'⟩ := P'; subst hv'; simp only [List.map_cons] at off'; (try dsimp only at N'); (try dsimp only); (try k_sweep)))
local macro_rules | `(tactic| kd_facts1) => `(tactic| first | assumption | exact offOf (by assumption) (by k_memK) | (refine' List.forall_mem_cons.mpr ⟨?a, ?b⟩; (case a | b => kd_facts1)) | fail "kd_facts1")
set_option maxHeartbeats 16000000 in
theorem place_0T (prog : Program) (w : World) (p : Program) (loose : List Str) (mean : ExcName → Option Value) (mg mb : Str → Option Value)
    (dp un : Nat) (gd : Option (List Code)) (fa : Addr) (ccd : Value) (outer : List Env) (A₀ : Around) (base h₀ : Heap) (L : Addr) (s : Shared) (R : Flow → Shared → Prop) (E : Value → Shared → Prop)
    (body : List Stmt) (scope : Scope) (hbody : lawPlace = some (body, scope)) (u : Str → Option Value)
    (d i u0 u1 u2 : Int) (b0 b1 b2 bes : Bool) (sL due met dc box cl : Addr) (nl nd nm : Nat) (ob ocl : Obj) (S0 S1 S2 : SF) (a b c : SS) (tp ti td v0 v1 v2 : Tok) (own Y : List (Addr × Obj)) (odc : Obj)
    (B : Below A₀ base outer h₀)
    (F : Fr h₀ L s.heap (fun y => if y = "place" then some (.int 0 tp) else if y = "senders" then some (.ref sL) else if y = "due" then some (.ref due) else if y = "met" then some (.ref met) else if y = "turn" then some (.int i ti)
      else if y = "is_full" then some (.bool true) else if y = "besides" then some (.bool bes) else u y))
    (X : (hd.heap_1 w.params).In h₀)
    (N : News h₀ L s.heap ((sL, PySem.W.listOf #[.ref S0.sl, .ref S1.sl, .ref S2.sl] nl) :: (due, PySem.W.listOf #[.int u0 v0, .int u1 v1, .int u2 v2] nd) :: (met, PySem.W.listOf #[.bool b0, .bool b1, .bool b2] nm) :: (dc, odc) :: (box, ob) :: (cl, ocl) :: (own ++ Y)))
    (hdc : odc.data = .cell (some (.int d td)))
    (T : Top p loose mean mg mb h₀) (hap : AllApart [sL, due, met, dc, box, cl]) (hoo : OwnOff own [sL, due, met, dc, box, cl]) (hoY : OwnOff Y [sL, due, met, dc, box, cl]) (hoy : ∀ q ∈ own, ∀ r ∈ Y, q.1 ≠ r.1)
    (hS : Sys prog w d S0 S1 S2 a b c Y) (hd0 : 10 ≤ d) (hd1 : d < 50) (ok : a.Ok d) (hnow : a.now = 2 * i) (hi0 : 0 ≤ i) (hi1 : i < 9) (hu : u0 < 1000000) (hu0 : 0 ≤ u0)
    (hdp : dp + 40 < recursionLimit) (hun : un + 400 < cLine)
    (hret : ∀ (h' : Heap) (tk' : Nat) (Y' : List (Addr × Obj)) (nd' nm' : Nat) (u' : Int) (v' : Tok) (z : Value) (nb : Bool), Sys prog w d S0 S1 S2 (a.go d true) b c Y' → OwnOff Y' [sL, due, met, dc, box, cl] → (∀ q ∈ own, ∀ r ∈ Y', q.1 ≠ r.1) →
      u' = step d u0 b0 true → nb = (b0 || true) →
      Fr h₀ L h' (fun y => if y = "is_marked" then some z else if y = "place" then some (.int 0 tp) else if y = "senders" then some (.ref sL) else if y = "due" then some (.ref due) else if y = "met" then some (.ref met) else if y = "turn" then some (.int i ti)
        else if y = "is_full" then some (.bool true) else if y = "besides" then some (.bool bes) else u y) →
      News h₀ L h' ((sL, PySem.W.listOf #[.ref S0.sl, .ref S1.sl, .ref S2.sl] nl) :: (due, PySem.W.listOf #[.int u' v', .int u1 v1, .int u2 v2] nd') :: (met, PySem.W.listOf #[.bool nb, .bool b1, .bool b2] nm') :: (dc, odc) :: (box, ob) :: (cl, ocl) :: (own ++ Y')) →
      R .next { s with heap := h', toks := tk' }) :
    wpAny (model prog w) (ktrTop dp un gd "law" scope L fa ccd [("datagram", dc)] outer) (execs body (envX "law" scope L fa ccd [("datagram", dc)])) R E s := by
  have hMk : KstMark := kstMark
  have hb : some (_, _) = some (body, scope) := hbody
  injection hb with hb
  injection hb with hb hs
  subst hb hs
  simp only [AllApart] at hap
  obtain ⟨_, _, _, _, _, _, _⟩ := hap
  k_steps
  (all_goals (try k_data))
  all_goals (
    rename News h₀ L _ (_ :: _) => kN
    rename OwnOff _ (_ :: _) => ho
    obtain ⟨hoA, hoB⟩ := off_cut ho
    refine' hret _ _ _ _ _ _ _ _ _ ?hS hoA hoB ?hu ?hb ?F ?N
    case N => first | exact kN | (have kN2 := news_drop kN; exact kN2) | fail "news"
    case F => k_asm
    case hS => with_unfolding_all assumption
    case hu => first | exact (half_is0 _ d).trans (step_t (by first | rfl | assumption)).symm | exact (step_m (by first | rfl | assumption) (by assumption)).symm | exact (step_u (by first | rfl | assumption) (by assumption)).symm
    case hb => first | rfl | (simp only [*, Bool.or_true, Bool.or_false, Bool.true_or, Bool.false_or, Bool.or_self]; done) | simp_all)
set_option maxHeartbeats 16000000 in
theorem place_0F (prog : Program) (w : World) (p : Program) (loose : List Str) (mean : ExcName → Option Value) (mg mb : Str → Option Value)
    (dp un : Nat) (gd : Option (List Code)) (fa : Addr) (ccd : Value) (outer : List Env) (A₀ : Around) (base h₀ : Heap) (L : Addr) (s : Shared) (R : Flow → Shared → Prop) (E : Value → Shared → Prop)
    (body : List Stmt) (scope : Scope) (hbody : lawPlace = some (body, scope)) (u : Str → Option Value)
    (d i u0 u1 u2 : Int) (b0 b1 b2 bes : Bool) (sL due met dc box cl : Addr) (nl nd nm : Nat) (ob ocl : Obj) (S0 S1 S2 : SF) (a b c : SS) (tp ti td v0 v1 v2 : Tok) (own Y : List (Addr × Obj)) (odc : Obj)
    (B : Below A₀ base outer h₀)
    (F : Fr h₀ L s.heap (fun y => if y = "place" then some (.int 0 tp) else if y = "senders" then some (.ref sL) else if y = "due" then some (.ref due) else if y = "met" then some (.ref met) else if y = "turn" then some (.int i ti)
      else if y = "is_full" then some (.bool false) else if y = "besides" then some (.bool bes) else u y))
    (X : (hd.heap_1 w.params).In h₀)
    (N : News h₀ L s.heap ((sL, PySem.W.listOf #[.ref S0.sl, .ref S1.sl, .ref S2.sl] nl) :: (due, PySem.W.listOf #[.int u0 v0, .int u1 v1, .int u2 v2] nd) :: (met, PySem.W.listOf #[.bool b0, .bool b1, .bool b2] nm) :: (dc, odc) :: (box, ob) :: (cl, ocl) :: (own ++ Y)))
    (hdc : odc.data = .cell (some (.int d td)))
    (T : Top p loose mean mg mb h₀) (hap : AllApart [sL, due, met, dc, box, cl]) (hoo : OwnOff own [sL, due, met, dc, box, cl]) (hoY : OwnOff Y [sL, due, met, dc, box, cl]) (hoy : ∀ q ∈ own, ∀ r ∈ Y, q.1 ≠ r.1)
    (hS : Sys prog w d S0 S1 S2 a b c Y) (hd0 : 10 ≤ d) (hd1 : d < 50) (ok : a.Ok d) (hnow : a.now = 2 * i) (hi0 : 0 ≤ i) (hi1 : i < 9) (hu : u0 < 1000000) (hu0 : 0 ≤ u0)
    (hdp : dp + 40 < recursionLimit) (hun : un + 400 < cLine)
    (hret : ∀ (h' : Heap) (tk' : Nat) (Y' : List (Addr × Obj)) (nd' nm' : Nat) (u' : Int) (v' : Tok) (z : Value) (nb : Bool), Sys prog w d S0 S1 S2 (a.go d false) b c Y' → OwnOff Y' [sL, due, met, dc, box, cl] → (∀ q ∈ own, ∀ r ∈ Y', q.1 ≠ r.1) →
      u' = step d u0 b0 false → nb = (b0 || false) →
      Fr h₀ L h' (fun y => if y = "is_marked" then some z else if y = "place" then some (.int 0 tp) else if y = "senders" then some (.ref sL) else if y = "due" then some (.ref due) else if y = "met" then some (.ref met) else if y = "turn" then some (.int i ti)
        else if y = "is_full" then some (.bool false) else if y = "besides" then some (.bool bes) else u y) →
      News h₀ L h' ((sL, PySem.W.listOf #[.ref S0.sl, .ref S1.sl, .ref S2.sl] nl) :: (due, PySem.W.listOf #[.int u' v', .int u1 v1, .int u2 v2] nd') :: (met, PySem.W.listOf #[.bool nb, .bool b1, .bool b2] nm') :: (dc, odc) :: (box, ob) :: (cl, ocl) :: (own ++ Y')) →
      R .next { s with heap := h', toks := tk' }) :
    wpAny (model prog w) (ktrTop dp un gd "law" scope L fa ccd [("datagram", dc)] outer) (execs body (envX "law" scope L fa ccd [("datagram", dc)])) R E s := by
  have hMk : KstMark := kstMark
  have hb : some (_, _) = some (body, scope) := hbody
  injection hb with hb
  injection hb with hb hs
  subst hb hs
  simp only [AllApart] at hap
  obtain ⟨_, _, _, _, _, _, _⟩ := hap
  k_steps
  (all_goals (try k_data))
  all_goals (
    rename News h₀ L _ (_ :: _) => kN
    rename OwnOff _ (_ :: _) => ho
    obtain ⟨hoA, hoB⟩ := off_cut ho
    refine' hret _ _ _ _ _ _ _ _ _ ?hS hoA hoB ?hu ?hb ?F ?N
    case N => first | exact kN | (have kN2 := news_drop kN; exact kN2) | fail "news"
    case F => k_asm
    case hS => with_unfolding_all assumption
    case hu => first | exact (half_is0 _ d).trans (step_t (by first | rfl | assumption)).symm | exact (step_m (by first | rfl | assumption) (by assumption)).symm | exact (step_u (by first | rfl | assumption) (by assumption)).symm
    case hb => first | rfl | (simp only [*, Bool.or_true, Bool.or_false, Bool.true_or, Bool.false_or, Bool.or_self]; done) | simp_all)
local macro_rules | `(tactic| walk_at "call ref") => `(tactic| (k_here; (with_reducible show wpAny _ _ (call (Value.ref 250) [Value.ref _, Value.int _ _, Value.bool _]) _ _ _); k_dflt (refine' sys_use ?B ?F ?X ?N ?T ?hk ?P (Sys.at1 ?g1 ?g2 ?g3 ?g4 ?g5) ?off ?dp ?un ?_; (case B | F | X | N | T => k_asm); (case hk => exact rfl); (case P => kd_adr); (case g1 | g2 | g3 | g4 | g5 => assumption); (case off => kd_facts1); (case dp => ktr_room); (case un => ktr_units); k_whole); intro v' Y' h' tk' P' F' N' off'; obtain ⟨hv', hS'⟩ := P'; subst hv'; simp only [List.map_cons] at off'; (try dsimp only at N'); (try dsimp only); (try k_sweep)))
set_option maxHeartbeats 16000000 in
theorem place_1T (prog : Program) (w : World) (p : Program) (loose : List Str) (mean : ExcName → Option Value) (mg mb : Str → Option Value)
    (dp un : Nat) (gd : Option (List Code)) (fa : Addr) (ccd : Value) (outer : List Env) (A₀ : Around) (base h₀ : Heap) (L : Addr) (s : Shared) (R : Flow → Shared → Prop) (E : Value → Shared → Prop)
    (body : List Stmt) (scope : Scope) (hbody : lawPlace = some (body, scope)) (u : Str → Option Value)
    (d i u0 u1 u2 : Int) (b0 b1 b2 bes : Bool) (sL due met dc box cl : Addr) (nl nd nm : Nat) (ob ocl : Obj) (S0 S1 S2 : SF) (a b c : SS) (tp ti td v0 v1 v2 : Tok) (own Y : List (Addr × Obj)) (odc : Obj)
    (B : Below A₀ base outer h₀)
    (F : Fr h₀ L s.heap (fun y => if y = "place" then some (.int 1 tp) else if y = "senders" then some (.ref sL) else if y = "due" then some (.ref due) else if y = "met" then some (.ref met) else if y = "turn" then some (.int i ti)
      else if y = "is_full" then some (.bool true) else if y = "besides" then some (.bool bes) else u y))
    (X : (hd.heap_1 w.params).In h₀)
    (N : News h₀ L s.heap ((sL, PySem.W.listOf #[.ref S0.sl, .ref S1.sl, .ref S2.sl] nl) :: (due, PySem.W.listOf #[.int u0 v0, .int u1 v1, .int u2 v2] nd) :: (met, PySem.W.listOf #[.bool b0, .bool b1, .bool b2] nm) :: (dc, odc) :: (box, ob) :: (cl, ocl) :: (own ++ Y)))
    (hdc : odc.data = .cell (some (.int d td)))
    (T : Top p loose mean mg mb h₀) (hap : AllApart [sL, due, met, dc, box, cl]) (hoo : OwnOff own [sL, due, met, dc, box, cl]) (hoY : OwnOff Y [sL, due, met, dc, box, cl]) (hoy : ∀ q ∈ own, ∀ r ∈ Y, q.1 ≠ r.1)
    (hS : Sys prog w d S0 S1 S2 a b c Y) (hd0 : 10 ≤ d) (hd1 : d < 50) (ok : b.Ok d) (hnow : b.now = 2 * i) (hi0 : 0 ≤ i) (hi1 : i < 9) (hu : u1 < 1000000) (hu0 : 0 ≤ u1)
    (hdp : dp + 40 < recursionLimit) (hun : un + 400 < cLine)
    (hret : ∀ (h' : Heap) (tk' : Nat) (Y' : List (Addr × Obj)) (nd' nm' : Nat) (u' : Int) (v' : Tok) (z : Value) (nb : Bool), Sys prog w d S0 S1 S2 a (b.go d true) c Y' → OwnOff Y' [sL, due, met, dc, box, cl] → (∀ q ∈ own, ∀ r ∈ Y', q.1 ≠ r.1) →
      u' = step d u1 b1 true → nb = (b1 || true) →
      Fr h₀ L h' (fun y => if y = "is_marked" then some z else if y = "place" then some (.int 1 tp) else if y = "senders" then some (.ref sL) else if y = "due" then some (.ref due) else if y = "met" then some (.ref met) else if y = "turn" then some (.int i ti)
        else if y = "is_full" then some (.bool true) else if y = "besides" then some (.bool bes) else u y) →
      News h₀ L h' ((sL, PySem.W.listOf #[.ref S0.sl, .ref S1.sl, .ref S2.sl] nl) :: (due, PySem.W.listOf #[.int u0 v0, .int u' v', .int u2 v2] nd') :: (met, PySem.W.listOf #[.bool b0, .bool nb, .bool b2] nm') :: (dc, odc) :: (box, ob) :: (cl, ocl) :: (own ++ Y')) →
      R .next { s with heap := h', toks := tk' }) :
    wpAny (model prog w) (ktrTop dp un gd "law" scope L fa ccd [("datagram", dc)] outer) (execs body (envX "law" scope L fa ccd [("datagram", dc)])) R E s := by
  have hMk : KstMark := kstMark
  have hb : some (_, _) = some (body, scope) := hbody
  injection hb with hb
  injection hb with hb hs
  subst hb hs
  simp only [AllApart] at hap
  obtain ⟨_, _, _, _, _, _, _⟩ := hap
  k_steps
  (all_goals (try k_data))
  all_goals (
    rename News h₀ L _ (_ :: _) => kN
    rename OwnOff _ (_ :: _) => ho
    obtain ⟨hoA, hoB⟩ := off_cut ho
    refine' hret _ _ _ _ _ _ _ _ _ ?hS hoA hoB ?hu ?hb ?F ?N
    case N => first | exact kN | (have kN2 := news_drop kN; exact kN2) | fail "news"
    case F => k_asm
    case hS => with_unfolding_all assumption
    case hu => first | exact (half_is0 _ d).trans (step_t (by first | rfl | assumption)).symm | exact (step_m (by first | rfl | assumption) (by assumption)).symm | exact (step_u (by first | rfl | assumption) (by assumption)).symm
    case hb => first | rfl | (simp only [*, Bool.or_true, Bool.or_false, Bool.true_or, Bool.false_or, Bool.or_self]; done) | simp_all)
set_option maxHeartbeats 16000000 in
theorem place_1F (prog : Program) (w : World) (p : Program) (loose : List Str) (mean : ExcName → Option Value) (mg mb : Str → Option Value)
    (dp un : Nat) (gd : Option (List Code)) (fa : Addr) (ccd : Value) (outer : List Env) (A₀ : Around) (base h₀ : Heap) (L : Addr) (s : Shared) (R : Flow → Shared → Prop) (E : Value → Shared → Prop)
    (body : List Stmt) (scope : Scope) (hbody : lawPlace = some (body, scope)) (u : Str → Option Value)
    (d i u0 u1 u2 : Int) (b0 b1 b2 bes : Bool) (sL due met dc box cl : Addr) (nl nd nm : Nat) (ob ocl : Obj) (S0 S1 S2 : SF) (a b c : SS) (tp ti td v0 v1 v2 : Tok) (own Y : List (Addr × Obj)) (odc : Obj)
    (B : Below A₀ base outer h₀)
    (F : Fr h₀ L s.heap (fun y => if y = "place" then some (.int 1 tp) else if y = "senders" then some (.ref sL) else if y = "due" then some (.ref due) else if y = "met" then some (.ref met) else if y = "turn" then some (.int i ti)
      else if y = "is_full" then some (.bool false) else if y = "besides" then some (.bool bes) else u y))
    (X : (hd.heap_1 w.params).In h₀)
    (N : News h₀ L s.heap ((sL, PySem.W.listOf #[.ref S0.sl, .ref S1.sl, .ref S2.sl] nl) :: (due, PySem.W.listOf #[.int u0 v0, .int u1 v1, .int u2 v2] nd) :: (met, PySem.W.listOf #[.bool b0, .bool b1, .bool b2] nm) :: (dc, odc) :: (box, ob) :: (cl, ocl) :: (own ++ Y)))
    (hdc : odc.data = .cell (some (.int d td)))
    (T : Top p loose mean mg mb h₀) (hap : AllApart [sL, due, met, dc, box, cl]) (hoo : OwnOff own [sL, due, met, dc, box, cl]) (hoY : OwnOff Y [sL, due, met, dc, box, cl]) (hoy : ∀ q ∈ own, ∀ r ∈ Y, q.1 ≠ r.1)
    (hS : Sys prog w d S0 S1 S2 a b c Y) (hd0 : 10 ≤ d) (hd1 : d < 50) (ok : b.Ok d) (hnow : b.now = 2 * i) (hi0 : 0 ≤ i) (hi1 : i < 9) (hu : u1 < 1000000) (hu0 : 0 ≤ u1)
    (hdp : dp + 40 < recursionLimit) (hun : un + 400 < cLine)
    (hret : ∀ (h' : Heap) (tk' : Nat) (Y' : List (Addr × Obj)) (nd' nm' : Nat) (u' : Int) (v' : Tok) (z : Value) (nb : Bool), Sys prog w d S0 S1 S2 a (b.go d false) c Y' → OwnOff Y' [sL, due, met, dc, box, cl] → (∀ q ∈ own, ∀ r ∈ Y', q.1 ≠ r.1) →
      u' = step d u1 b1 false → nb = (b1 || false) →
      Fr h₀ L h' (fun y => if y = "is_marked" then some z else if y = "place" then some (.int 1 tp) else if y = "senders" then some (.ref sL) else if y = "due" then some (.ref due) else if y = "met" then some (.ref met) else if y = "turn" then some (.int i ti)
        else if y = "is_full" then some (.bool false) else if y = "besides" then some (.bool bes) else u y) →
      News h₀ L h' ((sL, PySem.W.listOf #[.ref S0.sl, .ref S1.sl, .ref S2.sl] nl) :: (due, PySem.W.listOf #[.int u0 v0, .int u' v', .int u2 v2] nd') :: (met, PySem.W.listOf #[.bool b0, .bool nb, .bool b2] nm') :: (dc, odc) :: (box, ob) :: (cl, ocl) :: (own ++ Y')) →
      R .next { s with heap := h', toks := tk' }) :
    wpAny (model prog w) (ktrTop dp un gd "law" scope L fa ccd [("datagram", dc)] outer) (execs body (envX "law" scope L fa ccd [("datagram", dc)])) R E s := by
  have hMk : KstMark := kstMark
  have hb : some (_, _) = some (body, scope) := hbody
  injection hb with hb
  injection hb with hb hs
  subst hb hs
  simp only [AllApart] at hap
  obtain ⟨_, _, _, _, _, _, _⟩ := hap
  k_steps
  (all_goals (try k_data))
  all_goals (
    rename News h₀ L _ (_ :: _) => kN
    rename OwnOff _ (_ :: _) => ho
    obtain ⟨hoA, hoB⟩ := off_cut ho
    refine' hret _ _ _ _ _ _ _ _ _ ?hS hoA hoB ?hu ?hb ?F ?N
    case N => first | exact kN | (have kN2 := news_drop kN; exact kN2) | fail "news"
    case F => k_asm
    case hS => with_unfolding_all assumption
    case hu => first | exact (half_is0 _ d).trans (step_t (by first | rfl | assumption)).symm | exact (step_m (by first | rfl | assumption) (by assumption)).symm | exact (step_u (by first | rfl | assumption) (by assumption)).symm
    case hb => first | rfl | (simp only [*, Bool.or_true, Bool.or_false, Bool.true_or, Bool.false_or, Bool.or_self]; done) | simp_all)
local macro_rules | `(tactic| walk_at "call ref") => `(tactic| (k_here; (with_reducible show wpAny _ _ (call (Value.ref 250) [Value.ref _, Value.int _ _, Value.bool _]) _ _ _); k_dflt (refine' sys_use ?B ?F ?X ?N ?T ?hk ?P (Sys.at2 ?g1 ?g2 ?g3 ?g4 ?g5) ?off ?dp ?un ?_; (case B | F | X | N | T => k_asm); (case hk => exact rfl); (case P => kd_adr); (case g1 | g2 | g3 | g4 | g5 => assumption); (case off => kd_facts1); (case dp => ktr_room); (case un => ktr_units); k_whole); intro v' Y' h' tk' P' F' N' off'; obtain ⟨hv', hS'⟩ := P'; subst hv'; simp only [List.map_cons] at off'; (try dsimp only at N'); (try dsimp only); (try k_sweep)))
set_option maxHeartbeats 16000000 in
theorem place_2T (prog : Program) (w : World) (p : Program) (loose : List Str) (mean : ExcName → Option Value) (mg mb : Str → Option Value)
    (dp un : Nat) (gd : Option (List Code)) (fa : Addr) (ccd : Value) (outer : List Env) (A₀ : Around) (base h₀ : Heap) (L : Addr) (s : Shared) (R : Flow → Shared → Prop) (E : Value → Shared → Prop)
    (body : List Stmt) (scope : Scope) (hbody : lawPlace = some (body, scope)) (u : Str → Option Value)
    (d i u0 u1 u2 : Int) (b0 b1 b2 bes : Bool) (sL due met dc box cl : Addr) (nl nd nm : Nat) (ob ocl : Obj) (S0 S1 S2 : SF) (a b c : SS) (tp ti td v0 v1 v2 : Tok) (own Y : List (Addr × Obj)) (odc : Obj)
    (B : Below A₀ base outer h₀)
    (F : Fr h₀ L s.heap (fun y => if y = "place" then some (.int 2 tp) else if y = "senders" then some (.ref sL) else if y = "due" then some (.ref due) else if y = "met" then some (.ref met) else if y = "turn" then some (.int i ti)
      else if y = "is_full" then some (.bool true) else if y = "besides" then some (.bool bes) else u y))
    (X : (hd.heap_1 w.params).In h₀)
    (N : News h₀ L s.heap ((sL, PySem.W.listOf #[.ref S0.sl, .ref S1.sl, .ref S2.sl] nl) :: (due, PySem.W.listOf #[.int u0 v0, .int u1 v1, .int u2 v2] nd) :: (met, PySem.W.listOf #[.bool b0, .bool b1, .bool b2] nm) :: (dc, odc) :: (box, ob) :: (cl, ocl) :: (own ++ Y)))
    (hdc : odc.data = .cell (some (.int d td)))
    (T : Top p loose mean mg mb h₀) (hap : AllApart [sL, due, met, dc, box, cl]) (hoo : OwnOff own [sL, due, met, dc, box, cl]) (hoY : OwnOff Y [sL, due, met, dc, box, cl]) (hoy : ∀ q ∈ own, ∀ r ∈ Y, q.1 ≠ r.1)
    (hS : Sys prog w d S0 S1 S2 a b c Y) (hd0 : 10 ≤ d) (hd1 : d < 50) (ok : c.Ok d) (hnow : c.now = 2 * i) (hi0 : 0 ≤ i) (hi1 : i < 9) (hu : u2 < 1000000) (hu0 : 0 ≤ u2)
    (hdp : dp + 40 < recursionLimit) (hun : un + 400 < cLine)
    (hret : ∀ (h' : Heap) (tk' : Nat) (Y' : List (Addr × Obj)) (nd' nm' : Nat) (u' : Int) (v' : Tok) (z : Value) (nb : Bool), Sys prog w d S0 S1 S2 a b (c.go d true) Y' → OwnOff Y' [sL, due, met, dc, box, cl] → (∀ q ∈ own, ∀ r ∈ Y', q.1 ≠ r.1) →
      u' = step d u2 b2 true → nb = (b2 || true) →
      Fr h₀ L h' (fun y => if y = "is_marked" then some z else if y = "place" then some (.int 2 tp) else if y = "senders" then some (.ref sL) else if y = "due" then some (.ref due) else if y = "met" then some (.ref met) else if y = "turn" then some (.int i ti)
        else if y = "is_full" then some (.bool true) else if y = "besides" then some (.bool bes) else u y) →
      News h₀ L h' ((sL, PySem.W.listOf #[.ref S0.sl, .ref S1.sl, .ref S2.sl] nl) :: (due, PySem.W.listOf #[.int u0 v0, .int u1 v1, .int u' v'] nd') :: (met, PySem.W.listOf #[.bool b0, .bool b1, .bool nb] nm') :: (dc, odc) :: (box, ob) :: (cl, ocl) :: (own ++ Y')) →
      R .next { s with heap := h', toks := tk' }) :
    wpAny (model prog w) (ktrTop dp un gd "law" scope L fa ccd [("datagram", dc)] outer) (execs body (envX "law" scope L fa ccd [("datagram", dc)])) R E s := by
  have hMk : KstMark := kstMark
  have hb : some (_, _) = some (body, scope) := hbody
  injection hb with hb
  injection hb with hb hs
  subst hb hs
  simp only [AllApart] at hap
  obtain ⟨_, _, _, _, _, _, _⟩ := hap
  k_steps
  (all_goals (try k_data))
  all_goals (
    rename News h₀ L _ (_ :: _) => kN
    rename OwnOff _ (_ :: _) => ho
    obtain ⟨hoA, hoB⟩ := off_cut ho
    refine' hret _ _ _ _ _ _ _ _ _ ?hS hoA hoB ?hu ?hb ?F ?N
    case N => first | exact kN | (have kN2 := news_drop kN; exact kN2) | fail "news"
    case F => k_asm
    case hS => with_unfolding_all assumption
    case hu => first | exact (half_is0 _ d).trans (step_t (by first | rfl | assumption)).symm | exact (step_m (by first | rfl | assumption) (by assumption)).symm | exact (step_u (by first | rfl | assumption) (by assumption)).symm
    case hb => first | rfl | (simp only [*, Bool.or_true, Bool.or_false, Bool.true_or, Bool.false_or, Bool.or_self]; done) | simp_all)
set_option maxHeartbeats 16000000 in
theorem place_2F (prog : Program) (w : World) (p : Program) (loose : List Str) (mean : ExcName → Option Value) (mg mb : Str → Option Value)
    (dp un : Nat) (gd : Option (List Code)) (fa : Addr) (ccd : Value) (outer : List Env) (A₀ : Around) (base h₀ : Heap) (L : Addr) (s : Shared) (R : Flow → Shared → Prop) (E : Value → Shared → Prop)
    (body : List Stmt) (scope : Scope) (hbody : lawPlace = some (body, scope)) (u : Str → Option Value)
    (d i u0 u1 u2 : Int) (b0 b1 b2 bes : Bool) (sL due met dc box cl : Addr) (nl nd nm : Nat) (ob ocl : Obj) (S0 S1 S2 : SF) (a b c : SS) (tp ti td v0 v1 v2 : Tok) (own Y : List (Addr × Obj)) (odc : Obj)
    (B : Below A₀ base outer h₀)
    (F : Fr h₀ L s.heap (fun y => if y = "place" then some (.int 2 tp) else if y = "senders" then some (.ref sL) else if y = "due" then some (.ref due) else if y = "met" then some (.ref met) else if y = "turn" then some (.int i ti)
      else if y = "is_full" then some (.bool false) else if y = "besides" then some (.bool bes) else u y))
    (X : (hd.heap_1 w.params).In h₀)
    (N : News h₀ L s.heap ((sL, PySem.W.listOf #[.ref S0.sl, .ref S1.sl, .ref S2.sl] nl) :: (due, PySem.W.listOf #[.int u0 v0, .int u1 v1, .int u2 v2] nd) :: (met, PySem.W.listOf #[.bool b0, .bool b1, .bool b2] nm) :: (dc, odc) :: (box, ob) :: (cl, ocl) :: (own ++ Y)))
    (hdc : odc.data = .cell (some (.int d td)))
    (T : Top p loose mean mg mb h₀) (hap : AllApart [sL, due, met, dc, box, cl]) (hoo : OwnOff own [sL, due, met, dc, box, cl]) (hoY : OwnOff Y [sL, due, met, dc, box, cl]) (hoy : ∀ q ∈ own, ∀ r ∈ Y, q.1 ≠ r.1)
    (hS : Sys prog w d S0 S1 S2 a b c Y) (hd0 : 10 ≤ d) (hd1 : d < 50) (ok : c.Ok d) (hnow : c.now = 2 * i) (hi0 : 0 ≤ i) (hi1 : i < 9) (hu : u2 < 1000000) (hu0 : 0 ≤ u2)
    (hdp : dp + 40 < recursionLimit) (hun : un + 400 < cLine)
    (hret : ∀ (h' : Heap) (tk' : Nat) (Y' : List (Addr × Obj)) (nd' nm' : Nat) (u' : Int) (v' : Tok) (z : Value) (nb : Bool), Sys prog w d S0 S1 S2 a b (c.go d bes) Y' → OwnOff Y' [sL, due, met, dc, box, cl] → (∀ q ∈ own, ∀ r ∈ Y', q.1 ≠ r.1) →
      u' = step d u2 b2 bes → nb = (b2 || bes) →
      Fr h₀ L h' (fun y => if y = "is_marked" then some z else if y = "place" then some (.int 2 tp) else if y = "senders" then some (.ref sL) else if y = "due" then some (.ref due) else if y = "met" then some (.ref met) else if y = "turn" then some (.int i ti)
        else if y = "is_full" then some (.bool false) else if y = "besides" then some (.bool bes) else u y) →
      News h₀ L h' ((sL, PySem.W.listOf #[.ref S0.sl, .ref S1.sl, .ref S2.sl] nl) :: (due, PySem.W.listOf #[.int u0 v0, .int u1 v1, .int u' v'] nd') :: (met, PySem.W.listOf #[.bool b0, .bool b1, .bool nb] nm') :: (dc, odc) :: (box, ob) :: (cl, ocl) :: (own ++ Y')) →
      R .next { s with heap := h', toks := tk' }) :
    wpAny (model prog w) (ktrTop dp un gd "law" scope L fa ccd [("datagram", dc)] outer) (execs body (envX "law" scope L fa ccd [("datagram", dc)])) R E s := by
  have hMk : KstMark := kstMark
  have hb : some (_, _) = some (body, scope) := hbody
  injection hb with hb
  injection hb with hb hs
  subst hb hs
  simp only [AllApart] at hap
  obtain ⟨_, _, _, _, _, _, _⟩ := hap
  k_steps
  (all_goals (try k_data))
  all_goals (
    rename News h₀ L _ (_ :: _) => kN
    rename OwnOff _ (_ :: _) => ho
    obtain ⟨hoA, hoB⟩ := off_cut ho
    refine' hret _ _ _ _ _ _ _ _ _ ?hS hoA hoB ?hu ?hb ?F ?N
    case N => first | exact kN | (have kN2 := news_drop kN; exact kN2) | fail "news"
    case F => k_asm
    case hS => with_unfolding_all assumption
    case hu => first | exact (half_is0 _ d).trans (step_t (by first | rfl | assumption)).symm | exact (step_m (by first | rfl | assumption) (by assumption)).symm | exact (step_u (by first | rfl | assumption) (by assumption)).symm
    case hb => first | rfl | (simp only [*, Bool.or_true, Bool.or_false, Bool.true_or, Bool.false_or, Bool.or_self]; done) | simp_all)
end

/- Inner -/
section
open PySem PySem.W PyProof.Rows PySem.Calls PySem.Spec
section
variable {prog : Program} {w : World} {A : Around} {E : Value → Shared → Prop} {s : Shared} {env : Env} {h₀ : Heap} {x : Str} {body : List Stmt} {Q : Flow → Shared → Prop}
theorem range_inv {r : Addr} {b₀ : Int} {t₀ u₀ v₀ : Tok} {n : Nat} {m₀ : Str → Option Value} {news nx₀ : List (Addr × Obj)} (J : Nat → (Str → Option Value) → List (Addr × Obj) → Prop)
    (hh : A.handled = none) (hr : IsRange s.heap r 0 b₀ 1 t₀ u₀ v₀) (hsmall : Builtin.Range.small 0 b₀ 1 = true) (hsz : Builtin.Range.rangeSize 0 b₀ 1 = (n : Int)) (F : Fr h₀ env.locals s.heap m₀) (N : News h₀ env.locals s.heap news)
    (hn : ∀ q ∈ nx₀, q ∈ news) (hj : J 0 m₀ nx₀)
    (turn : ∀ (i : Nat) (t : Tok) m₁ nx h tk own, i < n → OwnOff own (nx.map (·.1)) → J i m₁ nx → Fr h₀ env.locals h (fun y => if y = x then some (.int (i : Int) t) else m₁ y) → News h₀ env.locals h (nx ++ own) →
      wpAny (model prog w) A (execs body env) (InvPostG h₀ env.locals (J (i + 1)) own { s with heap := h, toks := tk } Q) E { s with heap := h, toks := tk })
    (done : ∀ m₁ nx h tk, J n m₁ nx → Fr h₀ env.locals h m₁ → News h₀ env.locals h nx → Q .next { s with heap := h, toks := tk }) :
    wpAny (model prog w) A (pyIter (.ref r)) (fun it s₂ => LoopAtV prog w A h₀ env x body Q E it s₂) E s := by
  refine wpAny_pyIter_range hr hsmall ?_
  have W : Walks prog w A s.heap.objs.size [s.heap.objs.size] [s.heap.objs.size] n (fun i v => i < n ∧ ∃ t, v = .int (0 + i * 1) t)
      (fun i h => IsRangeIter h s.heap.objs.size (0 + (i : Nat) * 1) ((n : Int) - (i : Nat)) 1) := (Walks.range hh _ 0 1 n).bound
  refine kdr_loop J W (fun _ h => h) (fun _ h => h) ?_ ?_ ?_ ?_ (by show IsRangeIter _ _ _ _ _; rw [hsz]; simpa using Heap.get?_push_size _ rfl) (F.push _) (fun p hp => ⟨Heap.get?_push_of_some _ (N p (hn p hp)).1, (N p (hn p hp)).2⟩) hj ?_ ?_
  · intro i h hi b hb
    rw [List.mem_singleton.mp hb]
    exact ⟨_, hi⟩
  · intro hm
    exact absurd F.ns.lt ((List.mem_singleton.mp hm) ▸ Nat.lt_irrefl _)
  · intro b hb
    rw [List.mem_singleton.mp hb]
    exact next_is_new F
  · intro p hp hI
    exact absurd (Heap.lt_size (N p (hn p hp)).1) ((List.mem_singleton.mp hI) ▸ Nat.lt_irrefl _)
  · rintro i v m₁ nx h tk own hi ⟨_, t, rfl⟩ hoff hJ F₁ N₁
    have e1 : (0 : Int) + (i : Int) * 1 = (i : Int) := by omega
    rw [e1] at F₁
    exact turn i t m₁ nx h tk own hi hoff hJ F₁ N₁
  · rintro m₁ nx h tk hJ F₁ N₁
    exact done m₁ nx h tk hJ F₁ N₁
end

/-- the ledger of the inner loop -/
abbrev vis (S0 S1 S2 : SF) (sL due met dc box cl : Addr) (nl nd nm : Nat) (odc ob ocl : Obj) (u0 u1 u2 : Int) (v0 v1 v2 : Tok) (b0 b1 b2 : Bool) (r : List (Addr × Obj)) : List (Addr × Obj) :=
  (sL, PySem.W.listOf #[.ref S0.sl, .ref S1.sl, .ref S2.sl] nl) :: (due, PySem.W.listOf #[.int u0 v0, .int u1 v1, .int u2 v2] nd) :: (met, PySem.W.listOf #[.bool b0, .bool b1, .bool b2] nm) :: (dc, odc) :: (box, ob) :: (cl, ocl) :: r

def JP (prog : Program) (w : World) (d : Int) (S0 S1 S2 : SF) (sL due met dc box cl : Addr) (nl : Nat) (odc ob ocl : Obj) (own : List (Addr × Obj)) (m₀ : Str → Option Value)
    (a b c : SS) (u0 u1 u2 : Int) (b0 b1 b2 : Bool) (m : Str → Option Value) (nx : List (Addr × Obj)) : Prop :=
  ∃ (Y : List (Addr × Obj)) (nd nm : Nat) (v0 v1 v2 : Tok), Sys prog w d S0 S1 S2 a b c Y ∧ OwnOff Y [sL, due, met, dc, box, cl] ∧ (∀ q ∈ own, ∀ r ∈ Y, q.1 ≠ r.1) ∧
    nx = vis S0 S1 S2 sL due met dc box cl nl nd nm odc ob ocl u0 u1 u2 v0 v1 v2 b0 b1 b2 (own ++ Y) ∧
    ∀ z : Str, z ≠ ("place" : Str) → z ≠ ("is_marked" : Str) → m z = m₀ z

theorem names6 {m : Str → Option Value} {k1 k2 k3 k4 k5 k6 : Str} {v1 v2 v3 v4 v5 v6 : Value} (h1 : m k1 = some v1) (h2 : m k2 = some v2) (h3 : m k3 = some v3) (h4 : m k4 = some v4) (h5 : m k5 = some v5) (h6 : m k6 = some v6) :
    (fun y => if y = k1 then some v1 else if y = k2 then some v2 else if y = k3 then some v3 else if y = k4 then some v4 else if y = k5 then some v5 else if y = k6 then some v6 else m y) = m := by
  funext y
  by_cases e1 : y = k1
  · rw [if_pos e1, e1, h1]
  rw [if_neg e1]
  by_cases e2 : y = k2
  · rw [if_pos e2, e2, h2]
  rw [if_neg e2]
  by_cases e3 : y = k3
  · rw [if_pos e3, e3, h3]
  rw [if_neg e3]
  by_cases e4 : y = k4
  · rw [if_pos e4, e4, h4]
  rw [if_neg e4]
  by_cases e5 : y = k5
  · rw [if_pos e5, e5, h5]
  rw [if_neg e5]
  by_cases e6 : y = k6
  · rw [if_pos e6, e6, h6]
  rw [if_neg e6]
end

/- Inner2 -/
section
open PySem PySem.W PyProof.Rows PySem.Calls PySem.Spec
theorem sub_cons {q : Addr × Obj} {l l' : List (Addr × Obj)} (h : ∀ r ∈ l, r ∈ l') : ∀ r ∈ q :: l, r ∈ q :: l' := fun r hr => by
  rcases List.mem_cons.mp hr with rfl | hr
  · exact .head _
  · exact .tail _ (h r hr)
theorem own_vis {own r : List (Addr × Obj)} {q1 q2 q3 q4 q5 q6 : Addr × Obj} (h : OwnOff own [q1.1, q2.1, q3.1, q4.1, q5.1, q6.1]) (h2 : ∀ q ∈ own, ∀ x ∈ r, q.1 ≠ x.1) : OwnOff own ((q1 :: q2 :: q3 :: q4 :: q5 :: q6 :: r).map (·.1)) := by
  intro q hq b hb
  have e : (q1 :: q2 :: q3 :: q4 :: q5 :: q6 :: r).map (·.1) = [q1.1, q2.1, q3.1, q4.1, q5.1, q6.1] ++ r.map (·.1) := rfl
  rw [e] at hb
  rcases List.mem_append.mp hb with hb | hb
  · exact h q hq b hb
  · obtain ⟨x, hx, rfl⟩ := List.mem_map.mp hb
    exact h2 q hq x hx
theorem vis_own {own r : List (Addr × Obj)} {q1 q2 q3 q4 q5 q6 : Addr × Obj} (h : OwnOff own ((q1 :: q2 :: q3 :: q4 :: q5 :: q6 :: r).map (·.1))) : OwnOff own [q1.1, q2.1, q3.1, q4.1, q5.1, q6.1] ∧ ∀ q ∈ own, ∀ x ∈ r, q.1 ≠ x.1 := by
  have e : (q1 :: q2 :: q3 :: q4 :: q5 :: q6 :: r).map (·.1) = [q1.1, q2.1, q3.1, q4.1, q5.1, q6.1] ++ r.map (·.1) := rfl
  rw [e] at h
  exact ⟨fun q hq b hb => h q hq b (List.mem_append.mpr (.inl hb)), fun q hq x hx => h q hq x.1 (List.mem_append.mpr (.inr (List.mem_map_of_mem hx)))⟩


set_option maxHeartbeats 4000000 in
theorem turn_0 (prog : Program) (w : World) (p : Program) (loose : List Str) (mean : ExcName → Option Value) (mg mb : Str → Option Value)
    (dp un : Nat) (gd : Option (List Code)) (fa : Addr) (ccd : Value) (outer : List Env) (A₀ : Around) (base h₀ : Heap) (L : Addr) (s : Shared) (Q : Flow → Shared → Prop) (E : Value → Shared → Prop)
    (body : List Stmt) (scope : Scope) (hbody : lawPlace = some (body, scope)) (m₀ : Str → Option Value)
    (d i u0 u1 u2 : Int) (b0 b1 b2 full bes : Bool) (sL due met dc box cl : Addr) (nl : Nat) (ob ocl : Obj) (S0 S1 S2 : SF) (a b c : SS) (t ti td : Tok) (own ownI : List (Addr × Obj)) (odc : Obj) (nx : List (Addr × Obj)) (m₁ : Str → Option Value)
    (B : Below A₀ base outer h₀)
    (hsend : m₀ "senders" = some (.ref sL)) (hdue : m₀ "due" = some (.ref due)) (hmet : m₀ "met" = some (.ref met)) (hturn : m₀ "turn" = some (.int i ti)) (hfull : m₀ "is_full" = some (.bool full)) (hbes : m₀ "besides" = some (.bool bes))
    (X : (hd.heap_1 w.params).In h₀) (hdc : odc.data = .cell (some (.int d td)))
    (T : Top p loose mean mg mb h₀) (hap : AllApart [sL, due, met, dc, box, cl]) (hoo : OwnOff own [sL, due, met, dc, box, cl])
    (hd0 : 10 ≤ d) (hd1 : d < 50) (ok : a.Ok d) (hnow : a.now = 2 * i) (hi0 : 0 ≤ i) (hi1 : i < 9) (hu : u0 < 1000000) (hu' : 0 ≤ u0)
    (hdp : dp + 40 < recursionLimit) (hun : un + 400 < cLine)
    (hoff : OwnOff ownI (nx.map (·.1))) (hJ : JP prog w d S0 S1 S2 sL due met dc box cl nl odc ob ocl own m₀ a b c u0 u1 u2 b0 b1 b2 m₁ nx)
    (F₁ : Fr h₀ L s.heap (fun (y : Str) => if y = ("place" : Str) then some (.int 0 t) else m₁ y)) (N₁ : News h₀ L s.heap (nx ++ ownI)) :
    wpAny (model prog w) (ktrTop dp un gd "law" scope L fa ccd [("datagram", dc)] outer) (execs body (envX "law" scope L fa ccd [("datagram", dc)]))
      (InvPostG h₀ L (JP prog w d S0 S1 S2 sL due met dc box cl nl odc ob ocl own m₀ (a.go d full) b c (step d u0 b0 full) u1 u2 (b0 || full) b1 b2) ownI s Q) E s := by
  obtain ⟨Y, nd, nm, v0, v1, v2, hS, hoY, hoy, rfl, hm⟩ := hJ
  have e := names6 (m := m₁) (k1 := "senders") (k2 := "due") (k3 := "met") (k4 := "turn") (k5 := "is_full") (k6 := "besides") ((hm _ (by decide) (by decide)).trans hsend) ((hm _ (by decide) (by decide)).trans hdue) ((hm _ (by decide) (by decide)).trans hmet) ((hm _ (by decide) (by decide)).trans hturn) ((hm _ (by decide) (by decide)).trans hfull) ((hm _ (by decide) (by decide)).trans hbes)
  have F₂ : Fr h₀ L s.heap (fun y => if y = "place" then some (.int 0 t) else if y = "senders" then some (.ref sL) else if y = "due" then some (.ref due) else if y = "met" then some (.ref met) else if y = "turn" then some (.int i ti)
    else if y = "is_full" then some (.bool full) else if y = "besides" then some (.bool bes) else m₁ y) := by
    have e2 : (fun (y : Str) => if y = ("place" : Str) then some (Value.int 0 t) else if y = "senders" then some (.ref sL) else if y = "due" then some (.ref due) else if y = "met" then some (.ref met) else if y = "turn" then some (.int i ti)
      else if y = "is_full" then some (.bool full) else if y = "besides" then some (.bool bes) else m₁ y) = fun (y : Str) => if y = ("place" : Str) then some (.int 0 t) else m₁ y := by
      funext y
      by_cases hy : y = ("place" : Str)
      · rw [if_pos hy, if_pos hy]
      · rw [if_neg hy, if_neg hy]; exact congrFun e y
    rw [e2]; exact F₁
  obtain ⟨ho1, ho2⟩ := vis_own hoff
  have hooI : OwnOff (own ++ ownI) [sL, due, met, dc, box, cl] := fun q hq b hb => (List.mem_append.mp hq).elim (fun hq => hoo q hq b hb) (fun hq => ho1 q hq b hb)
  have hoyI : ∀ q ∈ own ++ ownI, ∀ r ∈ Y, q.1 ≠ r.1 := fun q hq r hr => (List.mem_append.mp hq).elim (fun hq => hoy q hq r hr) (fun hq => ho2 q hq r (List.mem_append.mpr (.inr hr)))
  have N₂ : News h₀ L s.heap (vis S0 S1 S2 sL due met dc box cl nl nd nm odc ob ocl u0 u1 u2 v0 v1 v2 b0 b1 b2 ((own ++ ownI) ++ Y)) :=
    kst_newsOf N₁ (sub_cons (sub_cons (sub_cons (sub_cons (sub_cons (sub_cons (fun q hq => by
      rcases List.mem_append.mp hq with hq | hq
      · rcases List.mem_append.mp hq with hq | hq
        · exact List.mem_append.mpr (.inl (List.mem_append.mpr (.inl hq)))
        · exact List.mem_append.mpr (.inr hq)
      · exact List.mem_append.mpr (.inl (List.mem_append.mpr (.inr hq))))))))))
  have close : ∀ (h' : Heap) (tk' : Nat) (Y' : List (Addr × Obj)) (nd' nm' : Nat) (z : Value) (V0 V1 V2 : Tok), Sys prog w d S0 S1 S2 (a.go d full) b c Y' → OwnOff Y' [sL, due, met, dc, box, cl] →
      (∀ q ∈ own ++ ownI, ∀ r ∈ Y', q.1 ≠ r.1) →
      Fr h₀ L h' (fun y => if y = "is_marked" then some z else if y = "place" then some (.int 0 t) else if y = "senders" then some (.ref sL) else if y = "due" then some (.ref due) else if y = "met" then some (.ref met) else if y = "turn" then some (.int i ti)
        else if y = "is_full" then some (.bool full) else if y = "besides" then some (.bool bes) else m₁ y) →
      News h₀ L h' (vis S0 S1 S2 sL due met dc box cl nl nd' nm' odc ob ocl (step d u0 b0 full) u1 u2 V0 V1 V2 (b0 || full) b1 b2 ((own ++ ownI) ++ Y')) →
      InvPostG h₀ L (JP prog w d S0 S1 S2 sL due met dc box cl nl odc ob ocl own m₀ (a.go d full) b c (step d u0 b0 full) u1 u2 (b0 || full) b1 b2) ownI s Q .next { s with heap := h', toks := tk' } := by
    intro h' tk' Y' nd' nm' z V0 V1 V2 hS' hoY' hoy' F' N'
    refine ⟨h', tk', _, _, _, rfl, F', N', ?_, ?_, ?_, Y', nd', nm', V0, V1, V2, hS', hoY', fun q hq => hoy' q (List.mem_append.mpr (.inl hq)), rfl, ?_⟩
    · exact sub_cons (sub_cons (sub_cons (sub_cons (sub_cons (sub_cons (fun q hq => by
        rcases List.mem_append.mp hq with hq | hq
        · exact List.mem_append.mpr (.inl (List.mem_append.mpr (.inl hq)))
        · exact List.mem_append.mpr (.inr hq)))))))
    · exact fun q hq => .tail _ (.tail _ (.tail _ (.tail _ (.tail _ (.tail _ (List.mem_append.mpr (.inl (List.mem_append.mpr (.inr hq)))))))))
    · exact own_vis ho1 fun q hq x hx => (List.mem_append.mp hx).elim (fun hx => ho2 q hq x (List.mem_append.mpr (.inl hx))) (fun hx => hoy' q (List.mem_append.mpr (.inr hq)) x hx)
    · intro y h1 h2
      show (if y = ("is_marked" : Str) then some z else if y = ("place" : Str) then _ else _) = _
      rw [if_neg h2, if_neg h1]
      exact (congrFun e y).trans (hm y h1 h2)
  clear e F₁ N₁ hoff ho1 ho2
  cases full with
  | true => exact place_0T prog w p loose mean mg mb dp un gd fa ccd outer A₀ base h₀ L _ _ E body scope hbody m₁ d i u0 u1 u2 b0 b1 b2 bes sL due met dc box cl nl nd nm ob ocl S0 S1 S2 a b c t ti td v0 v1 v2 (own ++ ownI) Y odc B F₂ X N₂ hdc T hap hooI hoY hoyI hS hd0 hd1 ok hnow hi0 hi1 hu hu' hdp hun (fun h' tk' Y' nd' nm' u' v' z nb hS' hoY' hoy' hu' hb' F' N' => by subst hu'; subst hb'; exact close h' tk' Y' nd' nm' z v' v1 v2 hS' hoY' hoy' F' N')
  | false => exact place_0F prog w p loose mean mg mb dp un gd fa ccd outer A₀ base h₀ L _ _ E body scope hbody m₁ d i u0 u1 u2 b0 b1 b2 bes sL due met dc box cl nl nd nm ob ocl S0 S1 S2 a b c t ti td v0 v1 v2 (own ++ ownI) Y odc B F₂ X N₂ hdc T hap hooI hoY hoyI hS hd0 hd1 ok hnow hi0 hi1 hu hu' hdp hun (fun h' tk' Y' nd' nm' u' v' z nb hS' hoY' hoy' hu' hb' F' N' => by subst hu'; subst hb'; exact close h' tk' Y' nd' nm' z v' v1 v2 hS' hoY' hoy' F' N')

set_option maxHeartbeats 4000000 in
theorem turn_1 (prog : Program) (w : World) (p : Program) (loose : List Str) (mean : ExcName → Option Value) (mg mb : Str → Option Value)
    (dp un : Nat) (gd : Option (List Code)) (fa : Addr) (ccd : Value) (outer : List Env) (A₀ : Around) (base h₀ : Heap) (L : Addr) (s : Shared) (Q : Flow → Shared → Prop) (E : Value → Shared → Prop)
    (body : List Stmt) (scope : Scope) (hbody : lawPlace = some (body, scope)) (m₀ : Str → Option Value)
    (d i u0 u1 u2 : Int) (b0 b1 b2 full bes : Bool) (sL due met dc box cl : Addr) (nl : Nat) (ob ocl : Obj) (S0 S1 S2 : SF) (a b c : SS) (t ti td : Tok) (own ownI : List (Addr × Obj)) (odc : Obj) (nx : List (Addr × Obj)) (m₁ : Str → Option Value)
    (B : Below A₀ base outer h₀)
    (hsend : m₀ "senders" = some (.ref sL)) (hdue : m₀ "due" = some (.ref due)) (hmet : m₀ "met" = some (.ref met)) (hturn : m₀ "turn" = some (.int i ti)) (hfull : m₀ "is_full" = some (.bool full)) (hbes : m₀ "besides" = some (.bool bes))
    (X : (hd.heap_1 w.params).In h₀) (hdc : odc.data = .cell (some (.int d td)))
    (T : Top p loose mean mg mb h₀) (hap : AllApart [sL, due, met, dc, box, cl]) (hoo : OwnOff own [sL, due, met, dc, box, cl])
    (hd0 : 10 ≤ d) (hd1 : d < 50) (ok : b.Ok d) (hnow : b.now = 2 * i) (hi0 : 0 ≤ i) (hi1 : i < 9) (hu : u1 < 1000000) (hu' : 0 ≤ u1)
    (hdp : dp + 40 < recursionLimit) (hun : un + 400 < cLine)
    (hoff : OwnOff ownI (nx.map (·.1))) (hJ : JP prog w d S0 S1 S2 sL due met dc box cl nl odc ob ocl own m₀ a b c u0 u1 u2 b0 b1 b2 m₁ nx)
    (F₁ : Fr h₀ L s.heap (fun (y : Str) => if y = ("place" : Str) then some (.int 1 t) else m₁ y)) (N₁ : News h₀ L s.heap (nx ++ ownI)) :
    wpAny (model prog w) (ktrTop dp un gd "law" scope L fa ccd [("datagram", dc)] outer) (execs body (envX "law" scope L fa ccd [("datagram", dc)]))
      (InvPostG h₀ L (JP prog w d S0 S1 S2 sL due met dc box cl nl odc ob ocl own m₀ a (b.go d full) c u0 (step d u1 b1 full) u2 b0 (b1 || full) b2) ownI s Q) E s := by
  obtain ⟨Y, nd, nm, v0, v1, v2, hS, hoY, hoy, rfl, hm⟩ := hJ
  have e := names6 (m := m₁) (k1 := "senders") (k2 := "due") (k3 := "met") (k4 := "turn") (k5 := "is_full") (k6 := "besides") ((hm _ (by decide) (by decide)).trans hsend) ((hm _ (by decide) (by decide)).trans hdue) ((hm _ (by decide) (by decide)).trans hmet) ((hm _ (by decide) (by decide)).trans hturn) ((hm _ (by decide) (by decide)).trans hfull) ((hm _ (by decide) (by decide)).trans hbes)
  have F₂ : Fr h₀ L s.heap (fun y => if y = "place" then some (.int 1 t) else if y = "senders" then some (.ref sL) else if y = "due" then some (.ref due) else if y = "met" then some (.ref met) else if y = "turn" then some (.int i ti)
    else if y = "is_full" then some (.bool full) else if y = "besides" then some (.bool bes) else m₁ y) := by
    have e2 : (fun (y : Str) => if y = ("place" : Str) then some (Value.int 1 t) else if y = "senders" then some (.ref sL) else if y = "due" then some (.ref due) else if y = "met" then some (.ref met) else if y = "turn" then some (.int i ti)
      else if y = "is_full" then some (.bool full) else if y = "besides" then some (.bool bes) else m₁ y) = fun (y : Str) => if y = ("place" : Str) then some (.int 1 t) else m₁ y := by
      funext y
      by_cases hy : y = ("place" : Str)
      · rw [if_pos hy, if_pos hy]
      · rw [if_neg hy, if_neg hy]; exact congrFun e y
    rw [e2]; exact F₁
  obtain ⟨ho1, ho2⟩ := vis_own hoff
  have hooI : OwnOff (own ++ ownI) [sL, due, met, dc, box, cl] := fun q hq b hb => (List.mem_append.mp hq).elim (fun hq => hoo q hq b hb) (fun hq => ho1 q hq b hb)
  have hoyI : ∀ q ∈ own ++ ownI, ∀ r ∈ Y, q.1 ≠ r.1 := fun q hq r hr => (List.mem_append.mp hq).elim (fun hq => hoy q hq r hr) (fun hq => ho2 q hq r (List.mem_append.mpr (.inr hr)))
  have N₂ : News h₀ L s.heap (vis S0 S1 S2 sL due met dc box cl nl nd nm odc ob ocl u0 u1 u2 v0 v1 v2 b0 b1 b2 ((own ++ ownI) ++ Y)) :=
    kst_newsOf N₁ (sub_cons (sub_cons (sub_cons (sub_cons (sub_cons (sub_cons (fun q hq => by
      rcases List.mem_append.mp hq with hq | hq
      · rcases List.mem_append.mp hq with hq | hq
        · exact List.mem_append.mpr (.inl (List.mem_append.mpr (.inl hq)))
        · exact List.mem_append.mpr (.inr hq)
      · exact List.mem_append.mpr (.inl (List.mem_append.mpr (.inr hq))))))))))
  have close : ∀ (h' : Heap) (tk' : Nat) (Y' : List (Addr × Obj)) (nd' nm' : Nat) (z : Value) (V0 V1 V2 : Tok), Sys prog w d S0 S1 S2 a (b.go d full) c Y' → OwnOff Y' [sL, due, met, dc, box, cl] →
      (∀ q ∈ own ++ ownI, ∀ r ∈ Y', q.1 ≠ r.1) →
      Fr h₀ L h' (fun y => if y = "is_marked" then some z else if y = "place" then some (.int 1 t) else if y = "senders" then some (.ref sL) else if y = "due" then some (.ref due) else if y = "met" then some (.ref met) else if y = "turn" then some (.int i ti)
        else if y = "is_full" then some (.bool full) else if y = "besides" then some (.bool bes) else m₁ y) →
      News h₀ L h' (vis S0 S1 S2 sL due met dc box cl nl nd' nm' odc ob ocl u0 (step d u1 b1 full) u2 V0 V1 V2 b0 (b1 || full) b2 ((own ++ ownI) ++ Y')) →
      InvPostG h₀ L (JP prog w d S0 S1 S2 sL due met dc box cl nl odc ob ocl own m₀ a (b.go d full) c u0 (step d u1 b1 full) u2 b0 (b1 || full) b2) ownI s Q .next { s with heap := h', toks := tk' } := by
    intro h' tk' Y' nd' nm' z V0 V1 V2 hS' hoY' hoy' F' N'
    refine ⟨h', tk', _, _, _, rfl, F', N', ?_, ?_, ?_, Y', nd', nm', V0, V1, V2, hS', hoY', fun q hq => hoy' q (List.mem_append.mpr (.inl hq)), rfl, ?_⟩
    · exact sub_cons (sub_cons (sub_cons (sub_cons (sub_cons (sub_cons (fun q hq => by
        rcases List.mem_append.mp hq with hq | hq
        · exact List.mem_append.mpr (.inl (List.mem_append.mpr (.inl hq)))
        · exact List.mem_append.mpr (.inr hq)))))))
    · exact fun q hq => .tail _ (.tail _ (.tail _ (.tail _ (.tail _ (.tail _ (List.mem_append.mpr (.inl (List.mem_append.mpr (.inr hq)))))))))
    · exact own_vis ho1 fun q hq x hx => (List.mem_append.mp hx).elim (fun hx => ho2 q hq x (List.mem_append.mpr (.inl hx))) (fun hx => hoy' q (List.mem_append.mpr (.inr hq)) x hx)
    · intro y h1 h2
      show (if y = ("is_marked" : Str) then some z else if y = ("place" : Str) then _ else _) = _
      rw [if_neg h2, if_neg h1]
      exact (congrFun e y).trans (hm y h1 h2)
  clear e F₁ N₁ hoff ho1 ho2
  cases full with
  | true => exact place_1T prog w p loose mean mg mb dp un gd fa ccd outer A₀ base h₀ L _ _ E body scope hbody m₁ d i u0 u1 u2 b0 b1 b2 bes sL due met dc box cl nl nd nm ob ocl S0 S1 S2 a b c t ti td v0 v1 v2 (own ++ ownI) Y odc B F₂ X N₂ hdc T hap hooI hoY hoyI hS hd0 hd1 ok hnow hi0 hi1 hu hu' hdp hun (fun h' tk' Y' nd' nm' u' v' z nb hS' hoY' hoy' hu' hb' F' N' => by subst hu'; subst hb'; exact close h' tk' Y' nd' nm' z v0 v' v2 hS' hoY' hoy' F' N')
  | false => exact place_1F prog w p loose mean mg mb dp un gd fa ccd outer A₀ base h₀ L _ _ E body scope hbody m₁ d i u0 u1 u2 b0 b1 b2 bes sL due met dc box cl nl nd nm ob ocl S0 S1 S2 a b c t ti td v0 v1 v2 (own ++ ownI) Y odc B F₂ X N₂ hdc T hap hooI hoY hoyI hS hd0 hd1 ok hnow hi0 hi1 hu hu' hdp hun (fun h' tk' Y' nd' nm' u' v' z nb hS' hoY' hoy' hu' hb' F' N' => by subst hu'; subst hb'; exact close h' tk' Y' nd' nm' z v0 v' v2 hS' hoY' hoy' F' N')

set_option maxHeartbeats 4000000 in
theorem turn_2 (prog : Program) (w : World) (p : Program) (loose : List Str) (mean : ExcName → Option Value) (mg mb : Str → Option Value)
    (dp un : Nat) (gd : Option (List Code)) (fa : Addr) (ccd : Value) (outer : List Env) (A₀ : Around) (base h₀ : Heap) (L : Addr) (s : Shared) (Q : Flow → Shared → Prop) (E : Value → Shared → Prop)
    (body : List Stmt) (scope : Scope) (hbody : lawPlace = some (body, scope)) (m₀ : Str → Option Value)
    (d i u0 u1 u2 : Int) (b0 b1 b2 full bes : Bool) (sL due met dc box cl : Addr) (nl : Nat) (ob ocl : Obj) (S0 S1 S2 : SF) (a b c : SS) (t ti td : Tok) (own ownI : List (Addr × Obj)) (odc : Obj) (nx : List (Addr × Obj)) (m₁ : Str → Option Value)
    (B : Below A₀ base outer h₀)
    (hsend : m₀ "senders" = some (.ref sL)) (hdue : m₀ "due" = some (.ref due)) (hmet : m₀ "met" = some (.ref met)) (hturn : m₀ "turn" = some (.int i ti)) (hfull : m₀ "is_full" = some (.bool full)) (hbes : m₀ "besides" = some (.bool bes))
    (X : (hd.heap_1 w.params).In h₀) (hdc : odc.data = .cell (some (.int d td)))
    (T : Top p loose mean mg mb h₀) (hap : AllApart [sL, due, met, dc, box, cl]) (hoo : OwnOff own [sL, due, met, dc, box, cl])
    (hd0 : 10 ≤ d) (hd1 : d < 50) (ok : c.Ok d) (hnow : c.now = 2 * i) (hi0 : 0 ≤ i) (hi1 : i < 9) (hu : u2 < 1000000) (hu' : 0 ≤ u2)
    (hdp : dp + 40 < recursionLimit) (hun : un + 400 < cLine)
    (hoff : OwnOff ownI (nx.map (·.1))) (hJ : JP prog w d S0 S1 S2 sL due met dc box cl nl odc ob ocl own m₀ a b c u0 u1 u2 b0 b1 b2 m₁ nx)
    (F₁ : Fr h₀ L s.heap (fun (y : Str) => if y = ("place" : Str) then some (.int 2 t) else m₁ y)) (N₁ : News h₀ L s.heap (nx ++ ownI)) :
    wpAny (model prog w) (ktrTop dp un gd "law" scope L fa ccd [("datagram", dc)] outer) (execs body (envX "law" scope L fa ccd [("datagram", dc)]))
      (InvPostG h₀ L (JP prog w d S0 S1 S2 sL due met dc box cl nl odc ob ocl own m₀ a b (c.go d (full || bes)) u0 u1 (step d u2 b2 (full || bes)) b0 b1 (b2 || (full || bes))) ownI s Q) E s := by
  obtain ⟨Y, nd, nm, v0, v1, v2, hS, hoY, hoy, rfl, hm⟩ := hJ
  have e := names6 (m := m₁) (k1 := "senders") (k2 := "due") (k3 := "met") (k4 := "turn") (k5 := "is_full") (k6 := "besides") ((hm _ (by decide) (by decide)).trans hsend) ((hm _ (by decide) (by decide)).trans hdue) ((hm _ (by decide) (by decide)).trans hmet) ((hm _ (by decide) (by decide)).trans hturn) ((hm _ (by decide) (by decide)).trans hfull) ((hm _ (by decide) (by decide)).trans hbes)
  have F₂ : Fr h₀ L s.heap (fun y => if y = "place" then some (.int 2 t) else if y = "senders" then some (.ref sL) else if y = "due" then some (.ref due) else if y = "met" then some (.ref met) else if y = "turn" then some (.int i ti)
    else if y = "is_full" then some (.bool full) else if y = "besides" then some (.bool bes) else m₁ y) := by
    have e2 : (fun (y : Str) => if y = ("place" : Str) then some (Value.int 2 t) else if y = "senders" then some (.ref sL) else if y = "due" then some (.ref due) else if y = "met" then some (.ref met) else if y = "turn" then some (.int i ti)
      else if y = "is_full" then some (.bool full) else if y = "besides" then some (.bool bes) else m₁ y) = fun (y : Str) => if y = ("place" : Str) then some (.int 2 t) else m₁ y := by
      funext y
      by_cases hy : y = ("place" : Str)
      · rw [if_pos hy, if_pos hy]
      · rw [if_neg hy, if_neg hy]; exact congrFun e y
    rw [e2]; exact F₁
  obtain ⟨ho1, ho2⟩ := vis_own hoff
  have hooI : OwnOff (own ++ ownI) [sL, due, met, dc, box, cl] := fun q hq b hb => (List.mem_append.mp hq).elim (fun hq => hoo q hq b hb) (fun hq => ho1 q hq b hb)
  have hoyI : ∀ q ∈ own ++ ownI, ∀ r ∈ Y, q.1 ≠ r.1 := fun q hq r hr => (List.mem_append.mp hq).elim (fun hq => hoy q hq r hr) (fun hq => ho2 q hq r (List.mem_append.mpr (.inr hr)))
  have N₂ : News h₀ L s.heap (vis S0 S1 S2 sL due met dc box cl nl nd nm odc ob ocl u0 u1 u2 v0 v1 v2 b0 b1 b2 ((own ++ ownI) ++ Y)) :=
    kst_newsOf N₁ (sub_cons (sub_cons (sub_cons (sub_cons (sub_cons (sub_cons (fun q hq => by
      rcases List.mem_append.mp hq with hq | hq
      · rcases List.mem_append.mp hq with hq | hq
        · exact List.mem_append.mpr (.inl (List.mem_append.mpr (.inl hq)))
        · exact List.mem_append.mpr (.inr hq)
      · exact List.mem_append.mpr (.inl (List.mem_append.mpr (.inr hq))))))))))
  have close : ∀ (h' : Heap) (tk' : Nat) (Y' : List (Addr × Obj)) (nd' nm' : Nat) (z : Value) (V0 V1 V2 : Tok), Sys prog w d S0 S1 S2 a b (c.go d (full || bes)) Y' → OwnOff Y' [sL, due, met, dc, box, cl] →
      (∀ q ∈ own ++ ownI, ∀ r ∈ Y', q.1 ≠ r.1) →
      Fr h₀ L h' (fun y => if y = "is_marked" then some z else if y = "place" then some (.int 2 t) else if y = "senders" then some (.ref sL) else if y = "due" then some (.ref due) else if y = "met" then some (.ref met) else if y = "turn" then some (.int i ti)
        else if y = "is_full" then some (.bool full) else if y = "besides" then some (.bool bes) else m₁ y) →
      News h₀ L h' (vis S0 S1 S2 sL due met dc box cl nl nd' nm' odc ob ocl u0 u1 (step d u2 b2 (full || bes)) V0 V1 V2 b0 b1 (b2 || (full || bes)) ((own ++ ownI) ++ Y')) →
      InvPostG h₀ L (JP prog w d S0 S1 S2 sL due met dc box cl nl odc ob ocl own m₀ a b (c.go d (full || bes)) u0 u1 (step d u2 b2 (full || bes)) b0 b1 (b2 || (full || bes))) ownI s Q .next { s with heap := h', toks := tk' } := by
    intro h' tk' Y' nd' nm' z V0 V1 V2 hS' hoY' hoy' F' N'
    refine ⟨h', tk', _, _, _, rfl, F', N', ?_, ?_, ?_, Y', nd', nm', V0, V1, V2, hS', hoY', fun q hq => hoy' q (List.mem_append.mpr (.inl hq)), rfl, ?_⟩
    · exact sub_cons (sub_cons (sub_cons (sub_cons (sub_cons (sub_cons (fun q hq => by
        rcases List.mem_append.mp hq with hq | hq
        · exact List.mem_append.mpr (.inl (List.mem_append.mpr (.inl hq)))
        · exact List.mem_append.mpr (.inr hq)))))))
    · exact fun q hq => .tail _ (.tail _ (.tail _ (.tail _ (.tail _ (.tail _ (List.mem_append.mpr (.inl (List.mem_append.mpr (.inr hq)))))))))
    · exact own_vis ho1 fun q hq x hx => (List.mem_append.mp hx).elim (fun hx => ho2 q hq x (List.mem_append.mpr (.inl hx))) (fun hx => hoy' q (List.mem_append.mpr (.inr hq)) x hx)
    · intro y h1 h2
      show (if y = ("is_marked" : Str) then some z else if y = ("place" : Str) then _ else _) = _
      rw [if_neg h2, if_neg h1]
      exact (congrFun e y).trans (hm y h1 h2)
  clear e F₁ N₁ hoff ho1 ho2
  cases full with
  | true => exact place_2T prog w p loose mean mg mb dp un gd fa ccd outer A₀ base h₀ L _ _ E body scope hbody m₁ d i u0 u1 u2 b0 b1 b2 bes sL due met dc box cl nl nd nm ob ocl S0 S1 S2 a b c t ti td v0 v1 v2 (own ++ ownI) Y odc B F₂ X N₂ hdc T hap hooI hoY hoyI hS hd0 hd1 ok hnow hi0 hi1 hu hu' hdp hun (fun h' tk' Y' nd' nm' u' v' z nb hS' hoY' hoy' hu' hb' F' N' => by subst hu'; subst hb'; exact close h' tk' Y' nd' nm' z v0 v1 v' hS' hoY' hoy' F' N')
  | false => exact place_2F prog w p loose mean mg mb dp un gd fa ccd outer A₀ base h₀ L _ _ E body scope hbody m₁ d i u0 u1 u2 b0 b1 b2 bes sL due met dc box cl nl nd nm ob ocl S0 S1 S2 a b c t ti td v0 v1 v2 (own ++ ownI) Y odc B F₂ X N₂ hdc T hap hooI hoY hoyI hS hd0 hd1 ok hnow hi0 hi1 hu hu' hdp hun (fun h' tk' Y' nd' nm' u' v' z nb hS' hoY' hoy' hu' hb' F' N' => by subst hu'; subst hb'; exact close h' tk' Y' nd' nm' z v0 v1 v' hS' hoY' hoy' F' N')

set_option maxHeartbeats 4000000 in
theorem place_loop (prog : Program) (w : World) (p : Program) (loose : List Str) (mean : ExcName → Option Value) (mg mb : Str → Option Value)
    (dp un : Nat) (gd : Option (List Code)) (fa : Addr) (ccd : Value) (outer : List Env) (A₀ : Around) (base h₀ : Heap) (L : Addr) (s : Shared) (Q : Flow → Shared → Prop) (E : Value → Shared → Prop)
    (body : List Stmt) (scope : Scope) (hbody : lawPlace = some (body, scope)) (m₀ : Str → Option Value)
    (d i u0 u1 u2 : Int) (b0 b1 b2 full bes : Bool) (sL due met dc box cl : Addr) (nl nd nm : Nat) (ob ocl : Obj) (S0 S1 S2 : SF) (a b c : SS) (ti td v0 v1 v2 : Tok) (own Y : List (Addr × Obj)) (odc : Obj) (news : List (Addr × Obj))
    (r : Addr) (t₀ r₀ w₀ : Tok) (hr : IsRange s.heap r 0 3 1 t₀ r₀ w₀)
    (B : Below A₀ base outer h₀) (F : Fr h₀ L s.heap m₀)
    (hsend : m₀ "senders" = some (.ref sL)) (hdue : m₀ "due" = some (.ref due)) (hmet : m₀ "met" = some (.ref met)) (hturn : m₀ "turn" = some (.int i ti)) (hfull : m₀ "is_full" = some (.bool full)) (hbes : m₀ "besides" = some (.bool bes))
    (X : (hd.heap_1 w.params).In h₀)
    (N : News h₀ L s.heap news) (hn : ∀ q ∈ vis S0 S1 S2 sL due met dc box cl nl nd nm odc ob ocl u0 u1 u2 v0 v1 v2 b0 b1 b2 (own ++ Y), q ∈ news)
    (hdc : odc.data = .cell (some (.int d td)))
    (T : Top p loose mean mg mb h₀) (hap : AllApart [sL, due, met, dc, box, cl]) (hoo : OwnOff own [sL, due, met, dc, box, cl]) (hoY : OwnOff Y [sL, due, met, dc, box, cl]) (hoy : ∀ q ∈ own, ∀ r ∈ Y, q.1 ≠ r.1)
    (hS : Sys prog w d S0 S1 S2 a b c Y) (hd0 : 10 ≤ d) (hd1 : d < 50) (oka : a.Ok d) (okb : b.Ok d) (okc : c.Ok d) (hna : a.now = 2 * i) (hnb : b.now = 2 * i) (hnc : c.now = 2 * i) (hi0 : 0 ≤ i) (hi1 : i < 9)
    (hu0 : u0 < 1000000) (hu0' : 0 ≤ u0) (hu1 : u1 < 1000000) (hu1' : 0 ≤ u1) (hu2 : u2 < 1000000) (hu2' : 0 ≤ u2)
    (hdp : dp + 40 < recursionLimit) (hun : un + 400 < cLine)
    (hret : ∀ m₁ h tk Y' nd nm v0 v1 v2, Sys prog w d S0 S1 S2 (a.go d full) (b.go d full) (c.go d (full || bes)) Y' → OwnOff Y' [sL, due, met, dc, box, cl] → (∀ q ∈ own, ∀ r ∈ Y', q.1 ≠ r.1) → (∀ z : Str, z ≠ ("place" : Str) → z ≠ ("is_marked" : Str) → m₁ z = m₀ z) → Fr h₀ L h m₁ →
      News h₀ L h (vis S0 S1 S2 sL due met dc box cl nl nd nm odc ob ocl (step d u0 b0 full) (step d u1 b1 full) (step d u2 b2 (full || bes)) v0 v1 v2 (b0 || full) (b1 || full) (b2 || (full || bes)) (own ++ Y')) → Q .next { s with heap := h, toks := tk }) :
    wpAny (model prog w) (ktrTop dp un gd "law" scope L fa ccd [("datagram", dc)] outer) (pyIter (.ref r))
      (fun it s₂ => LoopAtV prog w (ktrTop dp un gd "law" scope L fa ccd [("datagram", dc)] outer) h₀ (envX "law" scope L fa ccd [("datagram", dc)]) "place" body Q E it s₂) E s := by
  refine range_inv (env := envX "law" scope L fa ccd [("datagram", dc)]) (n := 3) (fun k => match k with
    | 0 => JP prog w d S0 S1 S2 sL due met dc box cl nl odc ob ocl own m₀ a b c u0 u1 u2 b0 b1 b2
    | 1 => JP prog w d S0 S1 S2 sL due met dc box cl nl odc ob ocl own m₀ (a.go d full) b c (step d u0 b0 full) u1 u2 (b0 || full) b1 b2
    | 2 => JP prog w d S0 S1 S2 sL due met dc box cl nl odc ob ocl own m₀ (a.go d full) (b.go d full) c (step d u0 b0 full) (step d u1 b1 full) u2 (b0 || full) (b1 || full) b2
    | _ => JP prog w d S0 S1 S2 sL due met dc box cl nl odc ob ocl own m₀ (a.go d full) (b.go d full) (c.go d (full || bes)) (step d u0 b0 full) (step d u1 b1 full) (step d u2 b2 (full || bes)) (b0 || full) (b1 || full) (b2 || (full || bes))) rfl hr (by decide) (by rfl) F N hn
    ⟨Y, nd, nm, v0, v1, v2, hS, hoY, hoy, rfl, fun _ _ _ => rfl⟩ ?_ ?_
  · rintro k t m₁ nx h tk ownI hk hoff hJ F₁ N₁
    have h3 : k = 0 ∨ k = 1 ∨ k = 2 := by omega
    rcases h3 with rfl | rfl | rfl
    · exact turn_0 prog w p loose mean mg mb dp un gd fa ccd outer A₀ base h₀ L { s with heap := h, toks := tk } Q E body scope hbody m₀ d i _ _ _ _ _ _ full bes sL due met dc box cl nl ob ocl S0 S1 S2 _ _ _ t ti td own ownI odc nx m₁ B hsend hdue hmet hturn hfull hbes X hdc T hap hoo hd0 hd1 oka hna hi0 hi1 hu0 hu0' hdp hun hoff hJ F₁ N₁
    · exact turn_1 prog w p loose mean mg mb dp un gd fa ccd outer A₀ base h₀ L { s with heap := h, toks := tk } Q E body scope hbody m₀ d i _ _ _ _ _ _ full bes sL due met dc box cl nl ob ocl S0 S1 S2 _ _ _ t ti td own ownI odc nx m₁ B hsend hdue hmet hturn hfull hbes X hdc T hap hoo hd0 hd1 okb hnb hi0 hi1 hu1 hu1' hdp hun hoff hJ F₁ N₁
    · exact turn_2 prog w p loose mean mg mb dp un gd fa ccd outer A₀ base h₀ L { s with heap := h, toks := tk } Q E body scope hbody m₀ d i _ _ _ _ _ _ full bes sL due met dc box cl nl ob ocl S0 S1 S2 _ _ _ t ti td own ownI odc nx m₁ B hsend hdue hmet hturn hfull hbes X hdc T hap hoo hd0 hd1 okc hnc hi0 hi1 hu2 hu2' hdp hun hoff hJ F₁ N₁
  · rintro m₁ nx h tk ⟨Y, nd, nm, v0, v1, v2, hS, hoY, hoy, rfl, hm⟩ F₁ N₁
    exact hret m₁ h tk Y nd nm v0 v1 v2 hS hoY hoy hm F₁ N₁
end

/- T3k -/
section
def lawT (n : Nat) : Option (Stmt × Scope) := lawTurn.bind fun p => (p.1[n]?).map fun b => (b, p.2)
set_option maxHeartbeats 16000000 in
theorem t3_some (prog : Program) (w : World) (p : Program) (loose : List Str) (mean : ExcName → Option Value) (mg mb : Str → Option Value)
    (dp un : Nat) (gd : Option (List Code)) (fa : Addr) (ccd : Value) (outer : List Env) (A₀ : Around) (base h₀ : Heap) (L : Addr) (s : Shared) (R : Flow → Shared → Prop) (E : Value → Shared → Prop)
    (st : Stmt) (scope : Scope) (hst : lawT 2 = some (st, scope)) (u : Str → Option Value)
    (d room ap times w0 w1 w2 : Int) (low alone : Bool) (D dc : Addr) (p0 p1 p2 ta tt tr td : Tok) (odc : Obj) (rest : List (Addr × Obj))
    (B : Below A₀ base outer h₀)
    (F : Fr h₀ L s.heap (fun y => if y = "now" then some (.ref D) else if y = "apart" then some (.int ap ta) else if y = "times" then some (.int times tt) else if y = "room" then some (.int room tr) else if y = "is_low" then some (.bool low)
      else if y = "is_alone" then some (.bool alone) else u y))
    (X : (hd.heap_1 w.params).In h₀)
    (N : News h₀ L s.heap ((D, LCg.lst [.int w0 p0, .int w1 p1, .int w2 p2]) :: (dc, odc) :: rest))
    (hdc : odc.data = .cell (some (.int d td))) (T : Top p loose mean mg mb h₀)
    (hd0 : 10 ≤ d) (hd1 : d < 50) (hr0 : 0 ≤ room) (hr1 : room < 10000) (hw0 : 0 ≤ w0) (hw0' : w0 < 1000000) (hw1 : 0 ≤ w1) (hw1' : w1 < 1000000) (hw2 : 0 ≤ w2) (hw2' : w2 < 1000000) (ht0 : 0 ≤ times) (ht1 : times < 10) (ha0 : -1000000 < ap) (ha1 : ap < 1000000)
    (c1 : 0 ≤ ap → 0 ≤ w0 - w1 ∧ (w0 - w1) * 2 ^ times.toNat < ap + 2 ^ times.toNat) (c2 : ap < 0 → 0 ≤ w1 - w0 ∧ (w1 - w0) * 2 ^ times.toNat < - ap + 2 ^ times.toNat)
    (c3 : low = true → w0 + w1 + w2 ≤ room + 3 * d) (c4 : alone = false → room - 2 ≤ 2 * (w0 + w1 + w2))
    (hdp : dp + 40 < recursionLimit) (hun : un + 400 < cLine)
    (hret : ∀ (h' : Heap) (tk' : Nat) (z : Value) (lw : Bool), lw = (low || decide (w0 + w1 + w2 ≤ room)) →
      Fr h₀ L h' (fun y => if y = "is_low" then some (.bool lw) else if y = "more" then some z else if y = "now" then some (.ref D) else if y = "apart" then some (.int ap ta) else if y = "times" then some (.int times tt) else if y = "room" then some (.int room tr) else if y = "is_low" then some (.bool low)
        else if y = "is_alone" then some (.bool alone) else u y) →
      News h₀ L h' ((D, LCg.lst [.int w0 p0, .int w1 p1, .int w2 p2]) :: (dc, odc) :: rest) → R .next { s with heap := h', toks := tk' }) :
    wpAny (model prog w) (ktrTop dp un gd "law" scope L fa ccd [("datagram", dc)] outer) (exec st (envX "law" scope L fa ccd [("datagram", dc)])) R E s := by
  have hMk : KstMark := kstMark
  have hb : some (_, _) = some (st, scope) := hst
  injection hb with hb
  injection hb with hb hs
  subst hb hs
  k_steps
  (all_goals (try k_data))
  all_goals (
    have g0 : [w0, w1, w2].getD (Int.toNat 0) 0 = w0 := rfl
    have g1 : [w0, w1, w2].getD (Int.toNat 1) 0 = w1 := rfl
    have g2 : (w0 - w1) * -1 = w1 - w0 := by omega
    first
    | (refine' hret _ _ _ _ ?e (by k_asm) (by k_asm)
       case e => first | (simp only [*, Bool.true_or]; done) | (rename low = false => hl; rw [hl, Bool.false_or]; exact decide_eq_decide.mpr ⟨by omega, by omega⟩))
    | (exfalso; rename low = true => hl; have q := c3 hl; omega)
    | (exfalso; rename alone = false => hl; have q := c4 hl; omega)
    | (exfalso; rcases Int.lt_or_le ap 0 with hs | hs
       · obtain ⟨q1, q2⟩ := c2 hs
         (try (rename _ + 2 ^ _ ≤ _ => hx; simp only [g0, g1, g2, Int.mul_one] at hx))
         omega
       · obtain ⟨q1, q2⟩ := c1 hs
         (try (rename _ + 2 ^ _ ≤ _ => hx; simp only [g0, g1, g2, Int.mul_one] at hx))
         omega)
    | fail "an end of t3")

theorem names6' {m : Str → Option Value} {k1 k2 k3 k4 k5 k6 : Str} {v1 v2 v3 v4 v5 v6 : Value} {w1 w2 : Option Value} {x1 x2 : Str} (h1 : m k1 = some v1) (h2 : m k2 = some v2) (h3 : m k3 = some v3) (h4 : m k4 = some v4) (h5 : m k5 = some v5) (h6 : m k6 = some v6) :
    (fun y => if y = x1 then w1 else if y = x2 then w2 else if y = k1 then some v1 else if y = k2 then some v2 else if y = k3 then some v3 else if y = k4 then some v4 else if y = k5 then some v5 else if y = k6 then some v6 else m y) = fun y => if y = x1 then w1 else if y = x2 then w2 else m y := by
  have e := names6 h1 h2 h3 h4 h5 h6
  funext y
  by_cases a : y = x1
  · rw [if_pos a, if_pos a]
  rw [if_neg a, if_neg a]
  by_cases b : y = x2
  · rw [if_pos b, if_pos b]
  rw [if_neg b, if_neg b]
  exact congrFun e y

theorem t3_use {prog : Program} {w : World} {p : Program} {loose : List Str} {mean : ExcName → Option Value} {mg mb : Str → Option Value}
    {dp un : Nat} {gd : Option (List Code)} {fa : Addr} {ccd : Value} {outer : List Env} {A₀ : Around} {base h₀ : Heap} {L : Addr} {s : Shared} {R : Flow → Shared → Prop} {E : Value → Shared → Prop}
    {st : Stmt} {scope : Scope} (hst : lawT 2 = some (st, scope)) {m : Str → Option Value}
    {d room ap times w0 w1 w2 : Int} {low alone : Bool} {D dc : Addr} {p0 p1 p2 ta tt tr td : Tok} {odc : Obj} {news rest : List (Addr × Obj)}
    (B : Below A₀ base outer h₀) (F : Fr h₀ L s.heap m) (m1 : m "now" = some (.ref D)) (m2 : m "apart" = some (.int ap ta)) (m3 : m "times" = some (.int times tt)) (m4 : m "room" = some (.int room tr)) (m5 : m "is_low" = some (.bool low)) (m6 : m "is_alone" = some (.bool alone))
    (X : (hd.heap_1 w.params).In h₀) (N : News h₀ L s.heap news)
    (P : Picks [(D, LCg.lst [.int w0 p0, .int w1 p1, .int w2 p2]), (dc, odc)] news rest)
    (hdc : odc.data = .cell (some (.int d td))) (T : Top p loose mean mg mb h₀)
    (hd0 : 10 ≤ d) (hd1 : d < 50) (hr0 : 0 ≤ room) (hr1 : room < 10000) (hw0 : 0 ≤ w0) (hw0' : w0 < 1000000) (hw1 : 0 ≤ w1) (hw1' : w1 < 1000000) (hw2 : 0 ≤ w2) (hw2' : w2 < 1000000) (ht0 : 0 ≤ times) (ht1 : times < 10) (ha0 : -1000000 < ap) (ha1 : ap < 1000000)
    (c1 : 0 ≤ ap → 0 ≤ w0 - w1 ∧ (w0 - w1) * 2 ^ times.toNat < ap + 2 ^ times.toNat) (c2 : ap < 0 → 0 ≤ w1 - w0 ∧ (w1 - w0) * 2 ^ times.toNat < - ap + 2 ^ times.toNat)
    (c3 : low = true → w0 + w1 + w2 ≤ room + 3 * d) (c4 : alone = false → room - 2 ≤ 2 * (w0 + w1 + w2))
    (hdp : dp + 40 < recursionLimit) (hun : un + 400 < cLine)
    (hret : ∀ (h' : Heap) (tk' : Nat) (z : Value) (lw : Bool), lw = (low || decide (w0 + w1 + w2 ≤ room)) →
      Fr h₀ L h' (fun y => if y = "is_low" then some (.bool lw) else if y = "more" then some z else m y) →
      News h₀ L h' ((D, LCg.lst [.int w0 p0, .int w1 p1, .int w2 p2]) :: (dc, odc) :: rest) → R .next { s with heap := h', toks := tk' }) :
    wpAny (model prog w) (ktrTop dp un gd "law" scope L fa ccd [("datagram", dc)] outer) (exec st (envX "law" scope L fa ccd [("datagram", dc)])) R E s := by
  have e := names6 m1 m2 m3 m4 m5 m6
  refine t3_some prog w p loose mean mg mb dp un gd fa ccd outer A₀ base h₀ L s R E st scope hst m d room ap times w0 w1 w2 low alone D dc p0 p1 p2 ta tt tr td odc rest B (by rw [e]; exact F) X
    (fun q hq => ?_) hdc T hd0 hd1 hr0 hr1 hw0 hw0' hw1 hw1' hw2 hw2' ht0 ht1 ha0 ha1 c1 c2 c3 c4 hdp hun ?_
  · rcases List.mem_cons.mp hq with rfl | hq
    · exact N _ (P.sub.1 _ (.head _))
    · rcases List.mem_cons.mp hq with rfl | hq
      · exact N _ (P.sub.1 _ (.tail _ (.head _)))
      · exact N _ (P.sub.2 _ hq)
  · intro h' tk' z lw hl F' N'
    rw [names6' m1 m2 m3 m4 m5 m6] at F'
    exact hret h' tk' z lw hl F' N'
end
end

/- Plain -/
section
/-- what is between the first two: halved t times upwards, it is not more -/
def Gap (x y a : Int) (t : Int) : Prop := (0 ≤ a → 0 ≤ x - y ∧ (x - y) * 2 ^ t.toNat < a + 2 ^ t.toNat) ∧ (a < 0 → 0 ≤ y - x ∧ (y - x) * 2 ^ t.toNat < -a + 2 ^ t.toNat)

theorem pow_pos2 (n : Nat) : (0 : Int) < 2 ^ n := Int.pow_pos (by decide)
theorem gap_half {x y a d : Int} {n : Nat} (h0 : 0 ≤ x - y) (h1 : (x - y) * 2 ^ n < a + 2 ^ n) :
    0 ≤ max (x / 2) (2 * d) - max (y / 2) (2 * d) ∧ (max (x / 2) (2 * d) - max (y / 2) (2 * d)) * 2 ^ (n + 1) < a + 2 ^ (n + 1) := by
  have hp := pow_pos2 n
  have hd : 0 ≤ max (x / 2) (2 * d) - max (y / 2) (2 * d) ∧ 2 * (max (x / 2) (2 * d) - max (y / 2) (2 * d)) ≤ x - y + 1 := by omega
  refine ⟨hd.1, ?_⟩
  generalize max (x / 2) (2 * d) - max (y / 2) (2 * d) = z at hd
  have e : (2 : Int) ^ (n + 1) = 2 ^ n * 2 := Int.pow_succ 2 n
  rw [e]
  generalize (2 : Int) ^ n = P at *
  have h2 : 2 * z * P ≤ (x - y + 1) * P := Int.mul_le_mul_of_nonneg_right hd.2 (Int.le_of_lt hp)
  have e2 : z * (P * 2) = 2 * z * P := by rw [Int.mul_comm P 2, ← Int.mul_assoc, Int.mul_comm z 2]
  have e3 : (x - y + 1) * P = (x - y) * P + P := by rw [Int.add_mul, Int.one_mul]
  omega
theorem Gap.half {x y a t d : Int} (ht : 0 ≤ t) (h : Gap x y a t) : Gap (max (x / 2) (2 * d)) (max (y / 2) (2 * d)) a (t + 1) := by
  have e : (t + 1).toNat = t.toNat + 1 := by omega
  unfold Gap
  rw [e]
  exact ⟨fun ha => gap_half (h.1 ha).1 (h.1 ha).2, fun ha => gap_half (h.2 ha).1 (h.2 ha).2⟩
theorem Gap.same {x y a t c : Int} (h : Gap x y a t) : Gap (x + c) (y + c) a t := by
  unfold Gap at *
  rw [show x + c - (y + c) = x - y by omega, show y + c - (x + c) = y - x by omega]
  exact h
theorem Gap.now (x y : Int) : Gap x y (x - y) 0 := by
  unfold Gap
  simp only [Int.toNat_zero, Int.pow_zero, Int.mul_one]
  exact ⟨fun _ => by omega, fun _ => by omega⟩

theorem pow_256 {i : Nat} (h : i ≤ 8) : (2 : Int) ^ i ≤ 256 := by
  have h2 : 2 ^ i ≤ 2 ^ 8 := Nat.pow_le_pow_right (by decide) h
  have e : ((2 ^ i : Nat) : Int) = (2 : Int) ^ i := by simp
  rw [← e]
  omega

structure LI (d room u0 u1 u2 : Int) (m0 m2 : Bool) (ap : Option Int) (times : Int) (low alone : Bool) (i : Nat) : Prop where
  l0 : 2 * d ≤ u0
  l1 : 2 * d ≤ u1
  l2 : 2 * d ≤ u2
  h0 : u0 ≤ 800 * 2 ^ i
  h1 : u1 ≤ 800 * 2 ^ i
  h2 : u2 ≤ 800 * 2 ^ i
  le : u2 ≤ u0
  mm : m0 = true → m2 = true
  no : ap = none → m0 = false ∧ low = false ∧ times = 0
  so : ∀ a, ap = some a → m0 = true ∧ Gap u0 u1 a times ∧ (alone = false → room - 2 ≤ 2 * (u0 + u1 + u2)) ∧ -1000000 < a ∧ a < 1000000
  lo : low = true → u0 + u1 + u2 ≤ room + 3 * d
  t0 : 0 ≤ times
  t1 : times ≤ i

def low' (room u0 u1 u2 : Int) (ap : Option Int) (low : Bool) : Bool := match ap with
  | none => low
  | some _ => low || decide (u0 + u1 + u2 ≤ room)
def ap' (full : Bool) (ap : Option Int) (x : Int) : Option Int := if full then (match ap with | none => some x | some a => some a) else ap
def times' (full : Bool) (ap : Option Int) (t : Int) : Int := if full then (match ap with | none => 0 | some _ => t + 1) else t

theorem step_le {d u : Int} {m b : Bool} (hd : 0 ≤ d) (h : 2 * d ≤ u) : 2 * d ≤ step d u m b ∧ step d u m b ≤ 2 * u := by
  unfold step
  cases b <;> cases m <;> simp <;> omega
set_option maxHeartbeats 1000000 in
theorem LI.next {d room u0 u1 u2 times : Int} {m0 m2 low alone bes full : Bool} {ap : Option Int} {i : Nat} (H : LI d room u0 u1 u2 m0 m2 ap times low alone i) (hi : i < 9) (hd0 : 10 ≤ d) (hd1 : d < 50) (hr : 12 * d ≤ room)
    (hf : full = decide (room < u0 + u1 + u2)) :
    LI d room (step d u0 m0 full) (step d u1 m0 full) (step d u2 m2 (full || bes)) (m0 || full) (m2 || (full || bes)) (ap' full ap (step d u0 m0 full - step d u1 m0 full)) (times' full ap times)
      (low' room u0 u1 u2 ap low) (alone || (bes && !full)) (i + 1) := by
  have s0 := step_le (m := m0) (b := full) (by omega) H.l0
  have s1 := step_le (m := m0) (b := full) (by omega) H.l1
  have s2 := step_le (m := m2) (b := full || bes) (by omega) H.l2
  have e : (2 : Int) ^ (i + 1) = 2 ^ i * 2 := Int.pow_succ 2 i
  have hp := pow_pos2 i
  obtain ⟨l0, l1, l2, h0, h1, h2, le, mm, no, so, lo, t0, t1⟩ := H
  refine ⟨s0.1, s1.1, s2.1, by rw [e]; omega, by rw [e]; omega, by rw [e]; omega, ?_, ?_, ?_, ?_, ?_, ?_, ?_⟩
  · unfold step
    cases full <;> cases bes <;> cases m0 <;> cases m2 <;> simp at mm ⊢ <;> omega
  · cases m0 <;> cases m2 <;> cases full <;> cases bes <;> simp at mm ⊢
  · intro h
    cases full with
    | true => cases ap <;> simp [ap'] at h
    | false =>
      simp only [ap', Bool.false_eq_true, if_false] at h
      subst h
      obtain ⟨a, b, c⟩ := no rfl
      exact ⟨by simp [a], by simp [low', b], by simp [times', c]⟩
  · intro a ha
    cases full with
    | true =>
      have hs : room < u0 + u1 + u2 := by simpa using hf.symm
      have hb : -1000000 < step d u0 m0 true - step d u1 m0 true ∧ step d u0 m0 true - step d u1 m0 true < 1000000 := by
        have hq : (2 : Int) ^ i ≤ 256 := pow_256 (by omega)
        simp only [step, if_true]
        omega
      refine ⟨by simp, ?_, ?_, ?_⟩
      · cases ap with
        | none =>
          simp only [ap', if_true, Option.some.injEq] at ha
          subst ha
          simp only [times', if_true]
          exact Gap.now _ _
        | some a₀ =>
          simp only [ap', if_true, Option.some.injEq] at ha
          subst ha
          simp only [times', if_true, step]
          exact Gap.half t0 (so _ rfl).2.1
      · intro _
        simp only [step, Bool.true_or, if_true]
        omega
      · cases ap with
        | none =>
          simp only [ap', if_true, Option.some.injEq] at ha
          subst ha
          exact hb
        | some a₀ =>
          simp only [ap', if_true, Option.some.injEq] at ha
          subst ha
          exact (so _ rfl).2.2.2
    | false =>
      simp only [ap', Bool.false_eq_true, if_false] at ha
      obtain ⟨hm, hg, ha2, hb⟩ := so a ha
      have hm2 := mm hm
      subst hm hm2
      refine ⟨by simp, ?_, ?_, hb⟩
      · simp only [times', Bool.false_eq_true, if_false, step, if_true]
        exact hg.same
      · intro hal
        have hbes : bes = false ∧ alone = false := by cases bes <;> cases alone <;> simp at hal ⊢
        have := ha2 hbes.2
        rw [hbes.1]
        simp only [step, Bool.or_false, Bool.false_eq_true, if_false, if_true]
        omega
  · intro hl
    cases ap with
    | none => rw [(show low' room u0 u1 u2 none low = low from rfl), (no rfl).2.1] at hl; cases hl
    | some a₀ =>
      obtain ⟨hm, -, -, -⟩ := so _ rfl
      have hm2 := mm hm
      subst hm hm2
      cases full with
      | true =>
        have hs : room < u0 + u1 + u2 := by simpa using hf.symm
        have hlow : low = true := by
          simp only [low', Bool.or_eq_true, decide_eq_true_eq] at hl
          rcases hl with hl | hl
          · exact hl
          · omega
        have := lo hlow
        simp only [step, Bool.true_or, if_true]
        omega
      | false =>
        have hs : ¬ room < u0 + u1 + u2 := by simpa using hf.symm
        cases bes <;> simp only [step, Bool.or_false, Bool.or_true, Bool.false_eq_true, if_false, if_true] <;> omega
  · unfold times'
    cases full <;> cases ap <;> simp <;> omega
  · unfold times'
    cases full <;> cases ap <;> simp <;> omega
end

/- TurnA -/
section
/-- the eyes' addresses are off the visible ones -/
theorem aps_eyes {w : World} {d u0 u1 u2 : Int} {S0 S1 S2 : SF} {thr0 rec0 thr1 rec1 thr2 rec2 : Value} {q0 q1 q2 q3 q4 q5 q6 q7 q8 : Tok} {Y Z : List (Addr × Obj)} {a1 a2 a3 a4 a5 a6 : Addr} (h : OwnOff Y [a1, a2, a3, a4, a5, a6])
    (hYZ : ∀ q, q ∈ S0.eye w d u0 thr0 rec0 q0 q1 q2 ++ (S1.eye w d u1 thr1 rec1 q3 q4 q5 ++ (S2.eye w d u2 thr2 rec2 q6 q7 q8 ++ Z)) ↔ q ∈ Y) :
    Aps S0.sl [a1, a2, a3, a4, a5, a6] ∧ Aps S0.way [a1, a2, a3, a4, a5, a6] ∧ Aps S0.dw [a1, a2, a3, a4, a5, a6] ∧ Aps S1.sl [a1, a2, a3, a4, a5, a6] ∧ Aps S1.way [a1, a2, a3, a4, a5, a6] ∧ Aps S1.dw [a1, a2, a3, a4, a5, a6] ∧
      Aps S2.sl [a1, a2, a3, a4, a5, a6] ∧ Aps S2.way [a1, a2, a3, a4, a5, a6] ∧ Aps S2.dw [a1, a2, a3, a4, a5, a6] := by
  have g : ∀ q : Addr × Obj, q ∈ Y → Aps q.1 [a1, a2, a3, a4, a5, a6] := fun q hq =>
    ⟨⟨h q hq a1 (by simp)⟩, ⟨h q hq a2 (by simp)⟩, ⟨h q hq a3 (by simp)⟩, ⟨h q hq a4 (by simp)⟩, ⟨h q hq a5 (by simp)⟩, ⟨h q hq a6 (by simp)⟩, trivial⟩
  have f : ∀ q, q ∈ S0.eye w d u0 thr0 rec0 q0 q1 q2 ++ (S1.eye w d u1 thr1 rec1 q3 q4 q5 ++ (S2.eye w d u2 thr2 rec2 q6 q7 q8 ++ Z)) → Aps q.1 [a1, a2, a3, a4, a5, a6] := fun q hq => g q ((hYZ q).mp hq)
  exact ⟨f (_, _) (List.Mem.head _), f (_, _) (.tail _ (.head _)), f (_, _) (.tail _ (.tail _ (.head _))), f (_, _) (.tail _ (.tail _ (.tail _ (.head _)))), f (_, _) (.tail _ (.tail _ (.tail _ (.tail _ (.head _))))), f (_, _) (.tail _ (.tail _ (.tail _ (.tail _ (.tail _ (.head _)))))),
    f (_, _) (.tail _ (.tail _ (.tail _ (.tail _ (.tail _ (.tail _ (.head _))))))), f (_, _) (.tail _ (.tail _ (.tail _ (.tail _ (.tail _ (.tail _ (.tail _ (.head _)))))))), f (_, _) (.tail _ (.tail _ (.tail _ (.tail _ (.tail _ (.tail _ (.tail _ (.tail _ (.head _)))))))))⟩
end

/- TurnB -/
section
open PySem PySem.W PyProof.Rows PySem.Calls PySem.Spec
/-- t is l's tail -/
inductive Tl (t : List (Addr × Obj)) : List (Addr × Obj) → Prop
  | here : Tl t t
  | tail {q l} : Tl t l → Tl t (q :: l)
theorem Tl.sub {t l : List (Addr × Obj)} (h : Tl t l) : ∀ q ∈ t, q ∈ l := by
  induction h with
  | here => exact fun _ h => h
  | tail _ ih => exact fun q hq => .tail _ (ih q hq)

structure Looks (m : Str → Option Value) (sL due met box : Addr) (room times : Int) (tr tt : Tok) (apv : Value) (low alone : Bool) : Prop where
  h1 : m "senders" = some (.ref sL)
  h2 : m "due" = some (.ref due)
  h3 : m "met" = some (.ref met)
  h4 : m "box" = some (.ref box)
  h5 : m "room" = some (.int room tr)
  h6 : m "apart" = some apv
  h7 : m "times" = some (.int times tt)
  h8 : m "is_low" = some (.bool low)
  h9 : m "is_alone" = some (.bool alone)
inductive IsAp : Option Int → Value → Prop
  | none : IsAp .none .none
  | some {a : Int} {t : Tok} : IsAp (.some a) (.int a t)

theorem Sys.cast {prog : Program} {w : World} {d : Int} {S0 S1 S2 : SF} {k : Nat} {u0 u1 u2 : Int} {m0 m1 m2 f0 f1 f2 : Bool} {Y : List (Addr × Obj)}
    (h : Sys prog w d S0 S1 S2 ((⟨2 * k, u0, m0, k⟩ : SS).go d f0) ((⟨2 * k, u1, m1, k⟩ : SS).go d f1) ((⟨2 * k, u2, m2, k⟩ : SS).go d f2) Y) :
    Sys prog w d S0 S1 S2 ⟨2 * (k + 1 : Nat), step d u0 m0 f0, m0 || f0, (k + 1 : Nat)⟩ ⟨2 * (k + 1 : Nat), step d u1 m1 f1, m1 || f1, (k + 1 : Nat)⟩ ⟨2 * (k + 1 : Nat), step d u2 m2 f2, m2 || f2, (k + 1 : Nat)⟩ Y := by
  have e : 2 * ((k + 1 : Nat) : Int) = 2 * (k : Int) + 2 := by omega
  have e1 : ((k + 1 : Nat) : Int) = (k : Int) + 1 := by omega
  rw [e, e1]
  exact h

theorem names2 {m₁ m₀ : Str → Option Value} (h : ∀ z : Str, z ≠ ("place" : Str) → z ≠ ("is_marked" : Str) → m₁ z = m₀ z) :
    m₁ = fun (y : Str) => if y = ("place" : Str) then m₁ y else if y = ("is_marked" : Str) then m₁ y else m₀ y := by
  funext y
  by_cases e1 : y = ("place" : Str)
  · rw [if_pos e1]
  rw [if_neg e1]
  by_cases e2 : y = ("is_marked" : Str)
  · rw [if_pos e2]
  rw [if_neg e2]
  exact h y e1 e2

theorem place_use {prog : Program} {w : World} {p : Program} {loose : List Str} {mean : ExcName → Option Value} {mg mb : Str → Option Value}
    {dp un : Nat} {gd : Option (List Code)} {fa : Addr} {ccd : Value} {outer : List Env} {A₀ : Around} {base h₀ : Heap} {L : Addr} {s : Shared} {Q : Flow → Shared → Prop} {E : Value → Shared → Prop}
    {body : List Stmt} {scope : Scope} (hbody : lawPlace = some (body, scope)) {m₀ : Str → Option Value}
    {d u0 u1 u2 : Int} {k : Nat} {b0 b1 b2 full bes : Bool} {sL due met dc box cl : Addr} {nl nd nm : Nat} {ob ocl : Obj} {S0 S1 S2 : SF} {ti td v0 v1 v2 : Tok} {own Y Z : List (Addr × Obj)} {odc : Obj} {news : List (Addr × Obj)}
    {r : Addr} {t₀ r₀ w₀ : Tok} (hr : IsRange s.heap r 0 3 1 t₀ r₀ w₀)
    {thr0 rec0 thr1 rec1 thr2 rec2 : Value} {q0 q1 q2 q3 q4 q5 q6 q7 q8 : Tok} {w0 w1 w2 : Int}
    (hYZ : ∀ q, q ∈ S0.eye w d w0 thr0 rec0 q0 q1 q2 ++ (S1.eye w d w1 thr1 rec1 q3 q4 q5 ++ (S2.eye w d w2 thr2 rec2 q6 q7 q8 ++ Z)) ↔ q ∈ Y)
    (B : Below A₀ base outer h₀) (F : Fr h₀ L s.heap m₀)
    (hsend : m₀ "senders" = some (.ref sL)) (hdue : m₀ "due" = some (.ref due)) (hmet : m₀ "met" = some (.ref met)) (hturn : m₀ "turn" = some (.int (k : Int) ti)) (hfull : m₀ "is_full" = some (.bool full)) (hbes : m₀ "besides" = some (.bool bes))
    (X : (hd.heap_1 w.params).In h₀)
    (N : News h₀ L s.heap news)
    (i1 : (sL, PySem.W.listOf #[.ref S0.sl, .ref S1.sl, .ref S2.sl] nl) ∈ news) (i2 : (due, PySem.W.listOf #[.int u0 v0, .int u1 v1, .int u2 v2] nd) ∈ news) (i3 : (met, PySem.W.listOf #[.bool b0, .bool b1, .bool b2] nm) ∈ news)
    (i4 : (dc, odc) ∈ news) (i5 : (box, ob) ∈ news) (i6 : (cl, ocl) ∈ news)
    (ie : ∀ q ∈ S0.eye w d w0 thr0 rec0 q0 q1 q2 ++ (S1.eye w d w1 thr1 rec1 q3 q4 q5 ++ S2.eye w d w2 thr2 rec2 q6 q7 q8), q ∈ news) (it : Tl (own ++ Z) news)
    (hdc : odc.data = .cell (some (.int d td)))
    (T : Top p loose mean mg mb h₀) (hap : AllApart [sL, due, met, dc, box, cl]) (hoo : OwnOff own [sL, due, met, dc, box, cl]) (hoY : OwnOff Y [sL, due, met, dc, box, cl]) (hoy : ∀ q ∈ own, ∀ r ∈ Y, q.1 ≠ r.1)
    (hS : Sys prog w d S0 S1 S2 ⟨2 * k, u0, b0, k⟩ ⟨2 * k, u1, b1, k⟩ ⟨2 * k, u2, b2, k⟩ Y) (hd0 : 10 ≤ d) (hd1 : d < 50) (hk : k < 9)
    (l0 : 2 * d ≤ u0) (l1 : 2 * d ≤ u1) (l2 : 2 * d ≤ u2) (h0 : u0 < 500000) (h1 : u1 < 500000) (h2 : u2 < 500000)
    (hdp : dp + 40 < recursionLimit) (hun : un + 400 < cLine)
    (hret : ∀ h tk Y' nd nm v0 v1 v2 x0 x1 x2 (f1 f2 : Str → Option Value), Sys prog w d S0 S1 S2 ⟨2 * (k + 1 : Nat), x0, b0 || full, (k + 1 : Nat)⟩ ⟨2 * (k + 1 : Nat), x1, b1 || full, (k + 1 : Nat)⟩ ⟨2 * (k + 1 : Nat), x2, b2 || (full || bes), (k + 1 : Nat)⟩ Y' → OwnOff Y' [sL, due, met, dc, box, cl] → (∀ q ∈ own, ∀ r ∈ Y', q.1 ≠ r.1) →
      x0 = step d u0 b0 full → x1 = step d u1 b1 full → x2 = step d u2 b2 (full || bes) → 0 ≤ x0 → x0 < 1000000 → 0 ≤ x1 → x1 < 1000000 →
      Fr h₀ L h (fun y => if y = "place" then f1 y else if y = "is_marked" then f2 y else m₀ y) →
      News h₀ L h (vis S0 S1 S2 sL due met dc box cl nl nd nm odc ob ocl x0 x1 x2 v0 v1 v2 (b0 || full) (b1 || full) (b2 || (full || bes)) (own ++ Y')) → Q .next { s with heap := h, toks := tk }) :
    wpAny (model prog w) (ktrTop dp un gd "law" scope L fa ccd [("datagram", dc)] outer) (pyIter (.ref r))
      (fun it s₂ => LoopAtV prog w (ktrTop dp un gd "law" scope L fa ccd [("datagram", dc)] outer) h₀ (envX "law" scope L fa ccd [("datagram", dc)]) "place" body Q E it s₂) E s := by
  have s0 := step_le (m := b0) (b := full) (by omega) l0
  have s1 := step_le (m := b1) (b := full) (by omega) l1
  refine place_loop prog w p loose mean mg mb dp un gd fa ccd outer A₀ base h₀ L s Q E body scope hbody m₀ d k u0 u1 u2 b0 b1 b2 full bes sL due met dc box cl nl nd nm ob ocl S0 S1 S2 ⟨2 * k, u0, b0, k⟩ ⟨2 * k, u1, b1, k⟩ ⟨2 * k, u2, b2, k⟩
    ti td v0 v1 v2 own Y odc news r t₀ r₀ w₀ hr B F hsend hdue hmet hturn hfull hbes X N ?_ hdc T hap hoo hoY hoy hS hd0 hd1 ⟨l0, h0, by show (k : Int) < 20; omega, by show 0 ≤ 2 * (k : Int); omega, by show 2 * (k : Int) < 50; omega⟩
    ⟨l1, h1, by show (k : Int) < 20; omega, by show 0 ≤ 2 * (k : Int); omega, by show 2 * (k : Int) < 50; omega⟩ ⟨l2, h2, by show (k : Int) < 20; omega, by show 0 ≤ 2 * (k : Int); omega, by show 2 * (k : Int) < 50; omega⟩ rfl rfl rfl (by omega) (by omega) (by omega) (by omega) (by omega) (by omega) (by omega) (by omega) hdp hun ?_
  · intro q hq
    simp only [vis, List.mem_cons] at hq
    rcases hq with rfl | rfl | rfl | rfl | rfl | rfl | hq
    · exact i1
    · exact i2
    · exact i3
    · exact i4
    · exact i5
    · exact i6
    · rcases List.mem_append.mp hq with hq | hq
      · exact it.sub q (List.mem_append.mpr (.inl hq))
      · have hq := (hYZ q).mpr hq
        rcases List.mem_append.mp hq with hq | hq
        · exact ie q (List.mem_append.mpr (.inl hq))
        rcases List.mem_append.mp hq with hq | hq
        · exact ie q (List.mem_append.mpr (.inr (List.mem_append.mpr (.inl hq))))
        rcases List.mem_append.mp hq with hq | hq
        · exact ie q (List.mem_append.mpr (.inr (List.mem_append.mpr (.inr hq))))
        · exact it.sub q (List.mem_append.mpr (.inr hq))
  · intro m₁ h tk Y' nd' nm' V0 V1 V2 hS' hoY' hoy' hm F' N'
    rw [names2 hm] at F'
    exact hret h tk Y' nd' nm' V0 V1 V2 _ _ _ m₁ m₁ (Sys.cast hS') hoY' hoy' rfl rfl rfl (by omega) (by omega) (by omega) (by omega) F' N'
theorem al1 {alone bes f : Bool} (h : alone = true) : alone = (alone || (bes && !f)) := by subst h; rfl
theorem al2 {alone f : Bool} {r : Int} (h : alone = false) (h2 : r = 0) : (!f) = (alone || ((r == 0) && !f)) := by subst h h2; rfl
theorem al3 {alone f : Bool} {r : Int} (h : alone = false) (h2 : r ≠ 0) : (r == 0) = (alone || ((r == 0) && !f)) := by subst h; rw [beq_eq_false_iff_ne.mpr h2]; rfl
theorem li_end {d room u0 u1 u2 times : Int} {m0 m2 low alone bes : Bool} {ap : Option Int} {k : Nat}
    (hnx : ∀ bes full, full = decide (room < u0 + u1 + u2) → LI d room (step d u0 m0 full) (step d u1 m0 full) (step d u2 m2 (full || bes)) (m0 || full) (m2 || (full || bes)) (ap' full ap (step d u0 m0 full - step d u1 m0 full)) (times' full ap times) (low' room u0 u1 u2 ap low) (alone || (bes && !full)) (k + 1))
    {f : Bool} {x0 x1 x2 tN : Int} {apN : Option Int} {lowN al : Bool} (hf : f = decide (room < u0 + (u1 + (u2 + 0)))) (h0 : x0 = step d u0 m0 f) (h1 : x1 = step d u1 m0 f) (h2 : x2 = step d u2 m2 (f || bes))
    (ha : apN = ap' f ap (x0 - x1)) (ht : tN = times' f ap times) (hl : lowN = low' room u0 u1 u2 ap low) (hal : al = (alone || (bes && !f))) : LI d room x0 x1 x2 (m0 || f) (m2 || (f || bes)) apN tN lowN al (k + 1) := by
  subst h0 h1 h2 ha ht hl hal
  exact hnx bes f (hf.trans (decide_eq_decide.mpr ⟨by omega, by omega⟩))
end

/- Begun2 -/
section
theorem acked_slow_C {prog : Program} {w : World} {way dw : Addr} {k1 k2 k3 k4 k5 k6 t1 t2 t5 t6 tz tn tm to : Tok} {d win size fl cr now now2 : Int}
    (hnd : AllApart [way, dw]) (hd0 : 10 ≤ d) (hd1 : d < 50) (hw0 : 2 * d ≤ win) (hw1 : win < 1000000) (hn0 : 0 ≤ now) (hn1 : now < 100) :
    SpecC prog w 8 91 [.ref way, .int size tz, .int now tn, .bool true, .int now2 tm, .int 0 to] [(way, instObj 122 dw), (dw, wayD w k1 k2 k3 k4 k5 k6 (.int d t1) (.int win t2) .none .none (.int fl t5) (.int cr t6))]
      (fun K => ∀ t2' t5' t6' w2 f2, w2 = win + size → f2 = fl - size → K .none [(way, instObj 122 dw), (dw, wayD w k1 k2 k3 k4 k5 k6 (.int d t1) (.int w2 t2') .none .none (.int f2 t5') (.int cr t6'))]) := by
  refine ⟨_, acked_slow prog w way dw k1 k2 k3 k4 k5 k6 t1 t2 t5 t6 tz tn tm to d win size fl cr now now2 hnd hd0 hd1 hw0 hw1 hn0 hn1, ?_⟩
  rintro _ _ K ⟨t2', t5', t6', w2, f2, c2, rfl, h0, rfl, h2, rfl⟩ k
  exact k t2' t5' t6' w2 f2 h0 h2
theorem begun_win {d : Int} (h0 : 10 ≤ d) (h1 : d < 50) : (if (if 2 * d > 14720 then 2 * d else 14720) < 10 * d then if 2 * d > 14720 then 2 * d else 14720 else 10 * d) = 10 * d := by
  rw [if_neg (by split <;> omega)]
set_option maxHeartbeats 16000000 in
theorem iwin_tells (prog : Program) (w : World) (d : Int) (td : Tok) (hd0 : 10 ≤ d) (hd1 : d < 50) :
    Spec prog w 8 28 [.int d td] [] (fun v A' => ∃ t r, v = .int r t ∧ r = 10 * d ∧ A' = []) := by
  intro p loose mean mg mb dp un gd cn cs a ccd lc outer A₀ base h₀ L m s Q E rest B F X N NR hoff T hk hdp hun hret
  have hMk : KstMark := kstMark
  refine wpAny_call ?_
  tb_start
  k_steps
  (all_goals (try k_data))
  all_goals (
    rename ∀ q ∈ rest, Heap.get? _ _ = some _ => hg
    refine' hret _ [] _ _ ⟨_, _, rfl, ?h1, rfl⟩ (by k_asm) (fun _ h => nomatch h) (by k_asm) (fun _ h => nomatch h)
    case h1 => exact begun_win hd0 hd1)
theorem iwin_C {prog : Program} {w : World} {d : Int} {td : Tok} (hd0 : 10 ≤ d) (hd1 : d < 50) :
    SpecC prog w 8 28 [.int d td] [] (fun K => ∀ t r, r = 10 * d → K (.int r t) []) := by
  refine ⟨_, iwin_tells prog w d td hd0 hd1, ?_⟩
  rintro _ _ K ⟨t, r, rfl, h0, rfl⟩ k
  exact k t r h0
local macro_rules | `(tactic| walk_at "call ref") => `(tactic| (k_here; (with_reducible show wpAny _ _ (call (Value.ref 28) [Value.int _ _]) _ _ _); k_dflt (refine' spec_useC ?B ?F ?X ?N ?T ?hk ?P (iwin_C ?s1 ?s2) ?off ?dp ?un ?_; (case B | F | X | N | T => k_asm); (case hk => exact rfl); (case P => kd_all); (case s1 | s2 => omega); (case off => kd_facts1); (case dp => ktr_room); (case un => ktr_units); k_whole); intro t' r' hr' h' tk' F' N' off'; clear off'; (try simp only [List.cons_append, List.nil_append] at N'); (try dsimp only); (try k_sweep)))
local macro_rules | `(tactic| walk_at "call ref") => `(tactic| (k_here; (with_reducible show wpAny _ _ (call (Value.ref 77) [Value.ref _, Value.int _ _]) _ _ _); k_dflt (refine' spec_useC ?B ?F ?X ?N ?T ?hk ?P (wsent_C ?s1 ?s2 ?s3) ?off ?dp ?un ?_; (case B | F | X | N | T => k_asm); (case hk => exact rfl); (case P => kd_all); (case s1 => kd_subs); (case s2 | s3 => omega); (case off => kd_facts1); (case dp => ktr_room); (case un => ktr_units); k_whole); intro t' f' hf' h' tk' F' N' off'; clear off'; (try simp only [List.cons_append, List.nil_append] at N'); (try dsimp only); (try k_sweep)))
local macro_rules | `(tactic| walk_at "call ref") => `(tactic| (k_here; (with_reducible show wpAny _ _ (call (Value.ref 91) [Value.ref _, Value.int _ _, Value.int _ _, Value.bool true, Value.int _ _, Value.int _ _]) _ _ _); k_dflt (refine' spec_useC ?B ?F ?X ?N ?T ?hk ?P (acked_slow_C ?s1 ?s2 ?s3 ?s4 ?s5 ?s6 ?s7) ?off ?dp ?un ?_; (case B | F | X | N | T => k_asm); (case hk => exact rfl); (case P => kd_all); (case s1 => kd_subs); (case s2 | s3 | s4 | s5 | s6 | s7 => omega); (case off => kd_facts1); (case dp => ktr_room); (case un => ktr_units); k_whole); intro t2' t5' t6' w2' f2' hw2' hf2' h' tk' F' N' off'; clear off'; (try simp only [List.cons_append, List.nil_append] at N'); (try dsimp only); (try k_sweep)))
theorem begun_mk {prog : Program} {w : World} {d g : Int} {sl_ way_ dw_ mq_ dm_ sd_ cd_ sn_ ds_ T1_ : Addr} {nS_ : Nat} {k1_ k2_ k3_ k4_ k5_ k6_ e1_ e2_ e3_ e4_ e5_ e6_ f1_ t1_ t2_ t5_ t6_ x1_ x2_ x3_ x4_ z1_ z2_ z3_ : Tok} {osd_ ocd_ : Obj} {win_ fl_ : Int}
    (h0 : win_ = 10 * d + g) (h1 : fl_ = 0) (h2 : osd_.IsDictOf (strKind prog w) []) (h3 : (sd_ == sysModules) = false) (h4 : ocd_.IsDictOf (strKind prog w) []) (h5 : (cd_ == sysModules) = false) (h6 : AllApart [sl_, way_, dw_, mq_, dm_, sd_, cd_, sn_, ds_, T1_]) :
    ∃ S : SF, Value.ref sl_ = .ref S.sl ∧ Snd prog w S d 0 (10 * d + g) false 0 [(sl_, PySem.W.listOf #[.ref way_, .ref mq_, .ref sn_] nS_), (way_, instObj 122 dw_), (dw_, wayD w k1_ k2_ k3_ k4_ k5_ k6_ (.int d t1_) (.int win_ t2_) .none .none (.int fl_ t5_) (.int 0 t6_)),
          (mq_, instObj 190 dm_), (dm_, ecnD w e1_ e2_ e3_ e4_ e5_ e6_ (.int 1 x1_) (.str "testing" x2_) (.int 0 x3_) (.int 0 x4_) (.ref sd_) (.ref cd_)), (sd_, osd_), (cd_, ocd_),
          (sn_, instObj 225 ds_), (ds_, seenD w f1_ (.ref T1_)), (T1_, MkTup [.int 0 z1_, .int 0 z2_, .int 0 z3_])] := by
  subst h0 h1
  exact ⟨⟨sl_, way_, dw_, mq_, dm_, sd_, cd_, sn_, ds_, nS_, k1_, k2_, k3_, k4_, k5_, k6_, e1_, e2_, e3_, e4_, e5_, e6_, f1_, t1_, x1_, x4_⟩, rfl, Snd.first .unmet h2 h3 h4 h5 h6⟩
set_option maxHeartbeats 16000000 in
theorem begun_tells (prog : Program) (w : World) (d g : Int) (td tg : Tok) (hd0 : 10 ≤ d) (hd1 : d < 50) (hg0 : 0 ≤ g) (hg1 : g < 300) :
    Spec prog w 24 243 [.int d td, .int g tg] []
      (fun v A' => ∃ S : SF, v = .ref S.sl ∧ Snd prog w S d 0 (10 * d + g) false 0 A') := by
  intro p loose mean mg mb dp un gd cn cs a ccd lc outer A₀ base h₀ L m s Q E rest B F X N NR hoff T hk hdp hun hret
  have hMk : KstMark := kstMark
  refine wpAny_call ?_
  tb_start
  k_steps
  (all_goals (try k_data))
  all_goals (
    rename News h₀ L _ (_ :: _) => kN
    rename ∀ q ∈ rest, Heap.get? _ _ = some _ => hg
    refine' hret _ _ _ _ (begun_mk ?hw ?hf ?h1 ?h2 ?h3 ?h4 ?h5) (by k_asm) (kst_newsOf kN ?hs) (by k_asm) (news_off (all := _) ?hn ?ho hg)
    case hs => lcg_sub
    case hw => omega
    case hf => omega
    case h1 => assumption
    case h2 => assumption
    case h3 => assumption
    case h4 => assumption
    case hn => k_asm
    case ho => lcg_sub
    case h5 => kd_subs)
theorem begun_spec {prog : Program} {w : World} {d g : Int} {td tg : Tok} (hd0 : 10 ≤ d) (hd1 : d < 50) (hg0 : 0 ≤ g) (hg1 : g < 300) :
    Spec prog w 24 243 [.int d td, .int g tg] [] (fun v A' => ∃ S : SF, v = .ref S.sl ∧ Snd prog w S d 0 (10 * d + g) false 0 A') :=
  begun_tells prog w d g td tg hd0 hd1 hg0 hg1
end
section
local macro_rules | `(tactic| walk_at "CompEnd") => `(tactic| k_dflt (refine LCg.CompEnd.intro (by k_asm) (by k_asm) _ (fun _ h9 => h9) (by assumption) (Or.inr ⟨_, by k_mem, rfl, _, rfl⟩) ?_))

/- S6 -/
section
/-- v ahead of the tail Z -/
inductive Cut (Z : List (Addr × Obj)) : List (Addr × Obj) → List (Addr × Obj) → Prop
  | here : Cut Z Z []
  | tail {q r v} : Cut Z r v → Cut Z (q :: r) (q :: v)
theorem Cut.eq {Z l v : List (Addr × Obj)} (h : Cut Z l v) : l = v ++ Z := by
  induction h with
  | here => rfl
  | tail _ ih => rw [ih]; rfl
theorem cut_mem {q : Addr × Obj} {v A Z : List (Addr × Obj)} : q ∈ v ++ (A ++ Z) ↔ q ∈ A ∨ q ∈ v ++ Z := by
  simp only [List.mem_append]
  constructor
  · rintro (h | h | h)
    · exact .inr (.inl h)
    · exact .inl h
    · exact .inr (.inr h)
  · rintro (h | h | h)
    · exact .inr (.inl h)
    · exact .inl h
    · exact .inr (.inr h)
/-- a sender's start within a comprehension -/
theorem begun_use {prog : Program} {w : World} {d g : Int} {td tg : Tok}
    {p : Program} {loose : List Str} {mean : ExcName → Option Value} {mg mb : Str → Option Value} {dp un : Nat} {gd : Option (List Code)} {cn : Str} {cs : Scope} {a : Addr} {ccd : Value} {lc : List (Str × Addr)} {outer : List Env}
    {A₀ : Around} {base h₀ : Heap} {L : Addr} {m : Str → Option Value} {s : Shared} {Q E : Value → Shared → Prop} {I C D : Addr} {oI oC oD : Obj} {l v Z : List (Addr × Obj)}
    (B : Below A₀ base outer h₀) (F : Fr h₀ L s.heap m) (X : (hd.heap_1 w.params).In h₀) (N : News h₀ L s.heap ((I, oI) :: (C, oC) :: (D, oD) :: l)) (T : Top p loose mean mg mb h₀) (hk : cs.kind = .function)
    (P : Cut Z l v) (off : LCg.Off3 I C D l) (hd0 : 10 ≤ d) (hd1 : d < 50) (hg0 : 0 ≤ g) (hg1 : g < 300) (hdp : dp + 24 < recursionLimit) (hun : un + 8 * 24 < cLine)
    (ret : ∀ (S : SF) A h' tk', Snd prog w S d 0 (10 * d + g) false 0 A → (∀ q ∈ A, ∀ r ∈ l, q.1 ≠ r.1) → LCg.Off3 I C D (v ++ (A ++ Z)) → Fr h₀ L h' m → News h₀ L h' ((I, oI) :: (C, oC) :: (D, oD) :: (v ++ (A ++ Z))) → Q (.ref S.sl) { s with heap := h', toks := tk' }) :
    wpAny (model prog w) (ktrTop dp un gd cn cs L a ccd lc outer) (call (.ref 243) [.int d td, .int g tg]) Q E s := by
  refine spec_use (rest := (I, oI) :: (C, oC) :: (D, oD) :: l) B F X N T hk Picks.nil (begun_spec hd0 hd1 hg0 hg1) (fun q _ r hr => nomatch hr) hdp hun ?_
  rintro val A h' tk' ⟨S, rfl, hS⟩ F' N' o
  have e := P.eq
  subst e
  refine ret S A h' tk' hS (fun q hq r hr => o q hq r (.tail _ (.tail _ (.tail _ hr)))) (LCg.Off3.of fun q hq => ?_) F' (fun q hq => N' q ?_)
  · rcases cut_mem.mp hq with hq | hq
    · exact ⟨o q hq _ (.head _), o q hq _ (.tail _ (.head _)), o q hq _ (.tail _ (.tail _ (.head _)))⟩
    · exact off.mem q hq
  · rcases List.mem_cons.mp hq with rfl | hq
    · exact List.mem_append.mpr (.inr (.head _))
    rcases List.mem_cons.mp hq with rfl | hq
    · exact List.mem_append.mpr (.inr (.tail _ (.head _)))
    rcases List.mem_cons.mp hq with rfl | hq
    · exact List.mem_append.mpr (.inr (.tail _ (.tail _ (.head _))))
    rcases cut_mem.mp hq with hq | hq
    · exact List.mem_append.mpr (.inl hq)
    · exact List.mem_append.mpr (.inr (.tail _ (.tail _ (.tail _ hq))))
theorem off1_mem {D : Addr} : ∀ {l : List (Addr × Obj)}, LCg.Off1 D l → ∀ q ∈ l, q.1 ≠ D
  | [], _, _, hq => nomatch hq
  | _ :: _, h, _, .head _ => h.1
  | _ :: _, h, q, .tail _ hq => off1_mem h.2 q hq
theorem s6_fin {prog : Program} {w : World} {d a b c : Int} {h₀ h' : Heap} {L T sL dL gr dc : Addr} {oT og odc : Obj} {S0 S1 S2 : SF} {A0 A1 A2 rest : List (Addr × Obj)} {z0 z1 z2 : Tok} {m : Addr → Addr → Str → Option Value} {G : Prop}
    (N : News h₀ L h' ((T, oT) :: (dL, LCg.lst [.int (10 * d + a) z0, .int (10 * d + b) z1, .int (10 * d + c) z2]) :: (sL, LCg.lst [.ref S0.sl, .ref S1.sl, .ref S2.sl]) :: (gr, og) :: (dc, odc) :: (A2 ++ (A1 ++ (A0 ++ rest)))))
    (F : Fr h₀ L h' (m sL dL)) (s0 : Snd prog w S0 d 0 (10 * d + a) false 0 A0) (s1 : Snd prog w S1 d 0 (10 * d + b) false 0 A1) (s2 : Snd prog w S2 d 0 (10 * d + c) false 0 A2)
    (f0 : ∀ q ∈ A0, ∀ r ∈ (gr, og) :: (dc, odc) :: rest, q.1 ≠ r.1) (f1 : ∀ q ∈ A1, ∀ r ∈ (gr, og) :: (dc, odc) :: (A0 ++ rest), q.1 ≠ r.1) (f2 : ∀ q ∈ A2, ∀ r ∈ (gr, og) :: (dc, odc) :: (A1 ++ (A0 ++ rest)), q.1 ≠ r.1)
    (d1 : ∀ q ∈ (gr, og) :: (dc, odc) :: (A2 ++ (A1 ++ (A0 ++ rest))), q.1 ≠ sL) (d2 : ∀ q ∈ (sL, LCg.lst [.ref S0.sl, .ref S1.sl, .ref S2.sl]) :: (gr, og) :: (dc, odc) :: (A2 ++ (A1 ++ (A0 ++ rest))), q.1 ≠ dL)
    (k : ∀ (S0 S1 S2 : SF) (Y : List (Addr × Obj)) (sL dL : Addr) (z0 z1 z2 : Tok), Sys prog w d S0 S1 S2 ⟨0, 10 * d + a, false, 0⟩ ⟨0, 10 * d + b, false, 0⟩ ⟨0, 10 * d + c, false, 0⟩ Y →
      (∀ q ∈ Y, ∀ r ∈ (gr, og) :: (dc, odc) :: rest, q.1 ≠ r.1) → (∀ q ∈ (gr, og) :: (dc, odc) :: rest, q.1 ≠ sL) → (∀ q ∈ (gr, og) :: (dc, odc) :: rest, q.1 ≠ dL) → sL ≠ dL → (∀ q ∈ Y, q.1 ≠ sL ∧ q.1 ≠ dL) → Fr h₀ L h' (m sL dL) →
      News h₀ L h' ((dL, PySem.W.listOf #[.int (10 * d + a) z0, .int (10 * d + b) z1, .int (10 * d + c) z2] 3) :: (sL, PySem.W.listOf #[.ref S0.sl, .ref S1.sl, .ref S2.sl] 3) :: (gr, og) :: (dc, odc) :: (rest ++ Y)) → G) : G := by
  have i0 : ∀ q, q ∈ A0 ++ (A1 ++ A2) → q ∈ A2 ++ (A1 ++ (A0 ++ rest)) := by simp only [List.mem_append]; intro q h; rcases h with h | h | h <;> simp [h]
  have ir : ∀ q, q ∈ rest → q ∈ A2 ++ (A1 ++ (A0 ++ rest)) := by simp only [List.mem_append]; intro q h; simp [h]
  have up : ∀ {q : Addr × Obj} {l l' : List (Addr × Obj)}, (∀ q, q ∈ l → q ∈ l') → q ∈ (gr, og) :: (dc, odc) :: l → q ∈ (gr, og) :: (dc, odc) :: l' := fun hs hq => by
    rcases List.mem_cons.mp hq with rfl | hq
    · exact .head _
    rcases List.mem_cons.mp hq with rfl | hq
    · exact .tail _ (.head _)
    · exact .tail _ (.tail _ (hs _ hq))
  refine k S0 S1 S2 (A0 ++ (A1 ++ A2)) sL dL z0 z1 z2 ⟨A0, A1, A2, s0, s1, s2, ?_, ?_, ?_, rfl⟩ ?_ (fun q hq => d1 q (up ir hq)) (fun q hq => d2 q (.tail _ (up ir hq))) (d2 _ (.head _)) (fun q hq => ⟨d1 q (.tail _ (.tail _ (i0 q hq))), d2 q (.tail _ (.tail _ (.tail _ (i0 q hq))))⟩) F ?_
  · exact fun q hq r hr e => f1 r hr q (.tail _ (.tail _ (List.mem_append.mpr (.inl hq)))) e.symm
  · exact fun q hq r hr e => f2 r hr q (.tail _ (.tail _ (List.mem_append.mpr (.inr (List.mem_append.mpr (.inl hq)))))) e.symm
  · exact fun q hq r hr e => f2 r hr q (.tail _ (.tail _ (List.mem_append.mpr (.inl hq)))) e.symm
  · intro q hq r hr
    rcases List.mem_append.mp hq with hq | hq
    · exact f0 q hq r hr
    rcases List.mem_append.mp hq with hq | hq
    · exact f1 q hq r (up (fun q h => List.mem_append.mpr (.inr h)) hr)
    · exact f2 q hq r (up (fun q h => List.mem_append.mpr (.inr (List.mem_append.mpr (.inr h)))) hr)
  · intro q hq
    rcases List.mem_cons.mp hq with rfl | hq
    · exact N _ (.tail _ (.head _))
    rcases List.mem_cons.mp hq with rfl | hq
    · exact N _ (.tail _ (.tail _ (.head _)))
    refine N _ (.tail _ (.tail _ (.tail _ (up (fun q h => ?_) hq))))
    rcases List.mem_append.mp h with h | h
    · exact ir q h
    · exact i0 q h
def lawS (n : Nat) : Option (Stmt × Scope) := lawDef.bind fun p => (p.1[n]?).map fun b => (b, p.2)
local macro_rules | `(tactic| walk_at "CompSrc Call") => `(tactic| (k_here; k_dflt (refine LCg.CompSrc.ledger (by rfl) (by k_asm) (by k_asm) (by k_mem) (by first | size_fits | exact Nat.le_of_ble_eq_true rfl) ?_; intro g'; lcg_lit)))
local macro_rules | `(tactic| walk_at "CompSrc BinOp") => `(tactic| (k_here; k_dflt (refine LCg.CompSrc.ledger (by rfl) (by k_asm) (by k_asm) (by k_mem) (by first | size_fits | exact Nat.le_of_ble_eq_true rfl) ?_; intro g'; lcg_lit)))
local macro_rules | `(tactic| kd_adr) => `(tactic| first | (refine' Cut.tail ?a; (case a => kd_adr)) | exact Cut.here)
local macro_rules | `(tactic| walk_at "FinE") => `(tactic| (k_dflt ((unfold LCg.FinE); intro D' h' tk' F' N' o1'; (replace o1' := off1_mem o1'); (try simp only [List.nil_append, List.cons_append] at N'); (try dsimp only))))
local macro_rules | `(tactic| walk_at "call ref") => `(tactic| (k_here; (with_reducible show wpAny _ _ (call (Value.ref 243) [Value.int _ _, Value.int _ _]) _ _ _); k_dflt (refine' begun_use ?B ?F ?X ?N ?T ?hk ?P ?off ?a0 ?a1 ?a2 ?a3 ?dp ?un ?_; (case B | F | X | N | T => k_asm); (case hk => exact rfl); (case P => kd_adr); (case off => assumption); (case a0 | a1 | a2 | a3 => omega); (case dp => ktr_room); (case un => ktr_units); k_whole); intro S' A' h' tk' hS' of' o3' F' N'; (simp only [List.cons_append, List.nil_append] at o3' N'); (try dsimp only); (try k_sweep)))
set_option maxHeartbeats 16000000 in
theorem s6_tells (prog : Program) (w : World) (p : Program) (loose : List Str) (mean : ExcName → Option Value) (mg mb : Str → Option Value)
    (dp un : Nat) (gd : Option (List Code)) (fa : Addr) (ccd : Value) (outer : List Env) (A₀ : Around) (base h₀ : Heap) (L : Addr) (s : Shared) (R : Flow → Shared → Prop) (E : Value → Shared → Prop)
    (st : Stmt) (scope : Scope) (hst : lawS 5 = some (st, scope)) (u : Str → Option Value)
    (d a b c : Int) (ng : Nat) (dc gr : Addr) (ta tb tc td : Tok) (odc : Obj) (rest : List (Addr × Obj))
    (B : Below A₀ base outer h₀) (F : Fr h₀ L s.heap (fun y => if y = "grown" then some (.ref gr) else u y)) (X : (hd.heap_1 w.params).In h₀)
    (N : News h₀ L s.heap ((gr, PySem.W.listOf #[.int a ta, .int b tb, .int c tc] ng) :: (dc, odc) :: rest))
    (hdc : odc.data = .cell (some (.int d td))) (T : Top p loose mean mg mb h₀)
    (hd0 : 10 ≤ d) (hd1 : d < 50) (ha0 : 0 ≤ a) (ha1 : a < 300) (hb0 : 0 ≤ b) (hb1 : b < 300) (hc0 : 0 ≤ c) (hc1 : c < 300)
    (hdp : dp + 40 < recursionLimit) (hun : un + 400 < cLine)
    (hret : ∀ (h' : Heap) (tk' : Nat) (S0 S1 S2 : SF) (Y : List (Addr × Obj)) (sL dL : Addr) (z0 z1 z2 : Tok), Sys prog w d S0 S1 S2 ⟨0, 10 * d + a, false, 0⟩ ⟨0, 10 * d + b, false, 0⟩ ⟨0, 10 * d + c, false, 0⟩ Y →
      (∀ q ∈ Y, ∀ r ∈ (gr, PySem.W.listOf #[.int a ta, .int b tb, .int c tc] ng) :: (dc, odc) :: rest, q.1 ≠ r.1) → (∀ q ∈ (gr, PySem.W.listOf #[.int a ta, .int b tb, .int c tc] ng) :: (dc, odc) :: rest, q.1 ≠ sL) → (∀ q ∈ (gr, PySem.W.listOf #[.int a ta, .int b tb, .int c tc] ng) :: (dc, odc) :: rest, q.1 ≠ dL) → sL ≠ dL → (∀ q ∈ Y, q.1 ≠ sL ∧ q.1 ≠ dL) →
      Fr h₀ L h' (fun y => if y = "senders" then some (.ref sL) else if y = "due" then some (.ref dL) else if y = "grown" then some (.ref gr) else u y) →
      News h₀ L h' ((dL, PySem.W.listOf #[.int (10 * d + a) z0, .int (10 * d + b) z1, .int (10 * d + c) z2] 3) :: (sL, PySem.W.listOf #[.ref S0.sl, .ref S1.sl, .ref S2.sl] 3) :: (gr, PySem.W.listOf #[.int a ta, .int b tb, .int c tc] ng) :: (dc, odc) :: (rest ++ Y)) →
      R .next { s with heap := h', toks := tk' }) :
    wpAny (model prog w) (ktrTop dp un gd "law" scope L fa ccd [("datagram", dc)] outer) (exec st (envX "law" scope L fa ccd [("datagram", dc)])) R E s := by
  have hMk : KstMark := kstMark
  have hb : some (_, _) = some (st, scope) := hst
  injection hb with hb
  injection hb with hb hs
  subst hb hs
  k_steps
  (all_goals (try k_data))
  all_goals (
    refine' s6_fin ?N ?F ?S0 ?S1 ?S2 ?f0 ?f1 ?f2 ?d1 ?d2 fun S0 S1 S2 Y sL dL z0 z1 z2 hS o1 o2 o3 o4 o5 F' N' => hret _ _ S0 S1 S2 Y sL dL z0 z1 z2 hS o1 o2 o3 o4 o5 F' N'
    case N => k_asm
    case F => k_asm
    case S0 => assumption
    case S1 => assumption
    case S2 => assumption
    case f0 => assumption
    case f1 => assumption
    case f2 => assumption
    case d1 => assumption
    case d2 => assumption)
end

/- Ret -/
section
/-- the eyes' addresses are off two -/
theorem aps_eyes2 {w : World} {d u0 u1 u2 : Int} {S0 S1 S2 : SF} {thr0 rec0 thr1 rec1 thr2 rec2 : Value} {q0 q1 q2 q3 q4 q5 q6 q7 q8 : Tok} {Y Z : List (Addr × Obj)} {a1 a2 : Addr} (h : ∀ q ∈ Y, q.1 ≠ a1 ∧ q.1 ≠ a2)
    (hYZ : ∀ q, q ∈ S0.eye w d u0 thr0 rec0 q0 q1 q2 ++ (S1.eye w d u1 thr1 rec1 q3 q4 q5 ++ (S2.eye w d u2 thr2 rec2 q6 q7 q8 ++ Z)) → q ∈ Y) :
    Aps S0.sl [a1, a2] ∧ Aps S0.way [a1, a2] ∧ Aps S0.dw [a1, a2] ∧ Aps S1.sl [a1, a2] ∧ Aps S1.way [a1, a2] ∧ Aps S1.dw [a1, a2] ∧ Aps S2.sl [a1, a2] ∧ Aps S2.way [a1, a2] ∧ Aps S2.dw [a1, a2] := by
  have g : ∀ q : Addr × Obj, q ∈ Y → Aps q.1 [a1, a2] := fun q hq => ⟨⟨(h q hq).1⟩, ⟨(h q hq).2⟩, trivial⟩
  have f : ∀ q, q ∈ S0.eye w d u0 thr0 rec0 q0 q1 q2 ++ (S1.eye w d u1 thr1 rec1 q3 q4 q5 ++ (S2.eye w d u2 thr2 rec2 q6 q7 q8 ++ Z)) → Aps q.1 [a1, a2] := fun q hq => g q (hYZ q hq)
  exact ⟨f (_, _) (List.Mem.head _), f (_, _) (.tail _ (.head _)), f (_, _) (.tail _ (.tail _ (.head _))), f (_, _) (.tail _ (.tail _ (.tail _ (.head _)))), f (_, _) (.tail _ (.tail _ (.tail _ (.tail _ (.head _))))), f (_, _) (.tail _ (.tail _ (.tail _ (.tail _ (.tail _ (.head _)))))),
    f (_, _) (.tail _ (.tail _ (.tail _ (.tail _ (.tail _ (.tail _ (.head _))))))), f (_, _) (.tail _ (.tail _ (.tail _ (.tail _ (.tail _ (.tail _ (.tail _ (.head _)))))))), f (_, _) (.tail _ (.tail _ (.tail _ (.tail _ (.tail _ (.tail _ (.tail _ (.tail _ (.head _)))))))))⟩
set_option maxHeartbeats 16000000 in
theorem ret_tells (prog : Program) (w : World) (p : Program) (loose : List Str) (mean : ExcName → Option Value) (mg mb : Str → Option Value)
    (dp un : Nat) (gd : Option (List Code)) (fa : Addr) (ccd : Value) (outer : List Env) (A₀ : Around) (base h₀ : Heap) (L : Addr) (s : Shared) (R : Flow → Shared → Prop) (E : Value → Shared → Prop)
    (st : Stmt) (scope : Scope) (hst : lawS 8 = some (st, scope)) (u : Str → Option Value)
    (d u0 u1 u2 : Int) (sL due dc : Addr) (nl nd : Nat) (v0 v1 v2 : Tok) (S0 S1 S2 : SF) (Y Z : List (Addr × Obj)) (thr0 rec0 thr1 rec1 thr2 rec2 : Value) (q0 q1 q2 q3 q4 q5 q6 q7 q8 : Tok)
    (hYZ : ∀ q, q ∈ S0.eye w d u0 thr0 rec0 q0 q1 q2 ++ (S1.eye w d u1 thr1 rec1 q3 q4 q5 ++ (S2.eye w d u2 thr2 rec2 q6 q7 q8 ++ Z)) → q ∈ Y)
    (hoY : ∀ q ∈ Y, q.1 ≠ sL ∧ q.1 ≠ due) (hne : sL ≠ due) (h0 : 0 ≤ u0) (h0' : u0 < 1000000) (h1 : 0 ≤ u1) (h1' : u1 < 1000000) (h2 : 0 ≤ u2) (h2' : u2 < 1000000)
    (B : Below A₀ base outer h₀) (F : Fr h₀ L s.heap (fun y => if y = "senders" then some (.ref sL) else if y = "due" then some (.ref due) else u y)) (X : (hd.heap_1 w.params).In h₀)
    (N : News h₀ L s.heap ((sL, PySem.W.listOf #[.ref S0.sl, .ref S1.sl, .ref S2.sl] nl) :: (due, PySem.W.listOf #[.int u0 v0, .int u1 v1, .int u2 v2] nd) :: (S0.eye w d u0 thr0 rec0 q0 q1 q2 ++ (S1.eye w d u1 thr1 rec1 q3 q4 q5 ++ (S2.eye w d u2 thr2 rec2 q6 q7 q8 ++ Z)))))
    (T : Top p loose mean mg mb h₀)
    (hdp : dp + 40 < recursionLimit) (hun : un + 400 < cLine)
    (hret : ∀ (h' : Heap) (tk' : Nat) (m' : Str → Option Value) (nw : List (Addr × Obj)), Fr h₀ L h' m' → News h₀ L h' nw → R (.ret (.bool true)) { s with heap := h', toks := tk' }) :
    wpAny (model prog w) (ktrTop dp un gd "law" scope L fa ccd [("datagram", dc)] outer) (exec st (envX "law" scope L fa ccd [("datagram", dc)])) R E s := by
  have hMk : KstMark := kstMark
  have hb : some (_, _) = some (st, scope) := hst
  injection hb with hb
  injection hb with hb hs
  subst hb hs
  obtain ⟨_, _, _, _, _, _, _, _, _⟩ := aps_eyes2 hoY hYZ
  have hoZ : ∀ q ∈ Z, q.1 ≠ sL ∧ q.1 ≠ due := fun q hq => hoY q (hYZ q (List.mem_append.mpr (.inr (List.mem_append.mpr (.inr (List.mem_append.mpr (.inr hq)))))))
  simp only [SF.eye, List.cons_append, List.nil_append] at N
  k_steps
  (all_goals (try k_data))
  all_goals (refine' hret _ _ _ _ ?F ?N; (case F => k_asm); (case N => k_asm))
theorem ret_use {prog : Program} {w : World} {p : Program} {loose : List Str} {mean : ExcName → Option Value} {mg mb : Str → Option Value}
    {dp un : Nat} {gd : Option (List Code)} {fa : Addr} {ccd : Value} {outer : List Env} {A₀ : Around} {base h₀ : Heap} {L : Addr} {s : Shared} {R : Flow → Shared → Prop} {E : Value → Shared → Prop}
    {st : Stmt} {scope : Scope} (hst : lawS 8 = some (st, scope)) {u : Str → Option Value}
    {d u0 u1 u2 : Int} {sL due dc : Addr} {nl nd : Nat} {v0 v1 v2 : Tok} {S0 S1 S2 : SF} {Y Z : List (Addr × Obj)} {thr0 rec0 thr1 rec1 thr2 rec2 : Value} {q0 q1 q2 q3 q4 q5 q6 q7 q8 : Tok}
    (hYZ : ∀ q, q ∈ S0.eye w d u0 thr0 rec0 q0 q1 q2 ++ (S1.eye w d u1 thr1 rec1 q3 q4 q5 ++ (S2.eye w d u2 thr2 rec2 q6 q7 q8 ++ Z)) → q ∈ Y)
    (hoY : ∀ q ∈ Y, q.1 ≠ sL ∧ q.1 ≠ due) (hne : sL ≠ due) (h0 : 0 ≤ u0) (h0' : u0 < 1000000) (h1 : 0 ≤ u1) (h1' : u1 < 1000000) (h2 : 0 ≤ u2) (h2' : u2 < 1000000)
    (B : Below A₀ base outer h₀) (F : Fr h₀ L s.heap (fun y => if y = "senders" then some (.ref sL) else if y = "due" then some (.ref due) else u y)) (X : (hd.heap_1 w.params).In h₀)
    (N : News h₀ L s.heap ((sL, PySem.W.listOf #[.ref S0.sl, .ref S1.sl, .ref S2.sl] nl) :: (due, PySem.W.listOf #[.int u0 v0, .int u1 v1, .int u2 v2] nd) :: (S0.eye w d u0 thr0 rec0 q0 q1 q2 ++ (S1.eye w d u1 thr1 rec1 q3 q4 q5 ++ (S2.eye w d u2 thr2 rec2 q6 q7 q8 ++ Z)))))
    (T : Top p loose mean mg mb h₀)
    (hdp : dp + 40 < recursionLimit) (hun : un + 400 < cLine)
    (hret : ∀ (h' : Heap) (tk' : Nat) (m' : Str → Option Value) (nw : List (Addr × Obj)), Fr h₀ L h' m' → News h₀ L h' nw → R (.ret (.bool true)) { s with heap := h', toks := tk' }) :
    wpAny (model prog w) (ktrTop dp un gd "law" scope L fa ccd [("datagram", dc)] outer) (exec st (envX "law" scope L fa ccd [("datagram", dc)])) R E s :=
  ret_tells prog w p loose mean mg mb dp un gd fa ccd outer A₀ base h₀ L s R E st scope hst u d u0 u1 u2 sL due dc nl nd v0 v1 v2 S0 S1 S2 Y Z thr0 rec0 thr1 rec1 thr2 rec2 q0 q1 q2 q3 q4 q5 q6 q7 q8 hYZ hoY hne h0 h0' h1 h1' h2 h2' B F X N T hdp hun hret
end
section

/- Turn -/
local macro_rules | `(tactic| kd_adr) => `(tactic| first | exact Tl.here | (refine' Tl.tail ?a; (case a => kd_adr)))
local macro_rules | `(tactic| kst_all1) => `(tactic| first | exact List.forall_mem_nil _ | (refine' List.forall_mem_cons.mpr ⟨?a, ?b⟩; (case a => k_mem); (case b => kst_all1)))
local macro_rules | `(tactic| walk_at "exec For Name Call cons nil") => `(tactic| (k_here; (rename Fr _ _ _ _ => lF'); (with_unfolding_all refine' For_invVF (hE := by assumption) lF' ?k1 ?k2 ?_; (case k1 | k2 => exact rfl); k_whole)))
local macro_rules | `(tactic| walk_at "pyIter ref") => `(tactic| (k_here; (with_reducible show wpAny _ _ (pyIter (Value.ref _)) (fun it s₂ => LoopAtV _ _ _ _ _ _ _ _ _ it s₂) _ _);  k_dflt (refine' place_use ?hbody ?hr ?yz ?B ?F ?g1 ?g2 ?g3 ?g4 ?g5 ?g6 ?X ?N ?i1 ?i2 ?i3 ?i4 ?i5 ?i6 ?ie ?it ?dc ?T ?ap ?oo ?oY ?oy ?S ?a1 ?a2 ?a3 ?a4 ?a5 ?a6 ?a7 ?a8 ?a9 ?dp ?un ?_; (case yz | oY | ap => assumption); (case hbody => exact rfl); (case hr => assumption); (case B | F => k_asm); (case S => assumption); (case g1 | g2 | g3 | g4 | g5 | g6 => exact rfl); (case X | N => k_asm); (case i1 | i2 | i3 | i4 | i5 | i6 => k_mem); (case ie => (simp only [SF.eye, List.cons_append, List.nil_append]; kst_all1)); (case it => kd_adr); (case dc => assumption); (case T => k_asm); (case oo | oy | a1 | a2 | a3 | a4 | a5 | a6 | a7 | a8 | a9 => assumption); (case dp => ktr_room); (case un => ktr_units); k_whole); intro h' tk' Y' nd' nm' v0' v1' v2' x0' x1' x2' f1' f2' hS' hoY' hoy' hx0' hx1' hx2' hb0' hb1' hb2' hb3' F' N'; (try dsimp only); (try k_sweep)))
local macro_rules | `(tactic| walk_at "exec If Compare") => `(tactic| (k_here; (with_reducible show wpAny _ _ (exec (Stmt.If (Expr.Compare (Expr.Name _ _) _ _ _) _ _ _) _) _ _ _); k_dflt (refine' t3_use ?hst ?B ?F ?g1 ?g2 ?g3 ?g4 ?g5 ?g6 ?X ?N ?P ?dc ?T ?a1 ?a2 ?a3 ?a4 ?a5 ?a6 ?a7 ?a8 ?a9 ?b1 ?b2 ?b3 ?b4 ?b5 ?c1 ?c2 ?c3 ?c4 ?dp ?un ?_; (case hst => exact rfl); (case B | F => k_asm); (case g1 | g2 | g3 | g4 | g5 | g6 => exact rfl); (case X | N => k_asm); (case P => kd_all); (case dc => assumption); (case T => k_asm); (case a1 | a2 => assumption); (case a3 => omega); (case a4 => assumption); (case a5 | a6 | a7 | a8 | a9 | b1 => omega); (case b2 => assumption); (case b3 => omega); (case b4 | b5 | c1 | c2 | c3 | c4 => assumption); (case dp => ktr_room); (case un => ktr_units); k_whole); intro h' tk' z' lw' hlw' F' N'; (try dsimp only); (try k_sweep)))
local macro_rules | `(tactic| walk_at "call ref") => `(tactic| (k_here; (with_reducible show wpAny _ _ (call (Value.ref 236) [Value.ref _, Value.int _ _]) _ _ _); k_dflt (refine' take_use ?B ?F ?X ?N ?T ?hk ?P1 ?P2 ?off ?ne ?hi ?len ?a0 ?a1 ?m0 ?m1 ?dp ?un ?_; (case B | F | X | N | T => k_asm); (case hk => exact rfl); (case P1 | P2 => kd_in); (case off => k_all); (case ne => k_ne); (case hi | len => assumption); (case a0 | a1 | m0 | m1 => omega); (case dp => ktr_room); (case un => ktr_units); k_whole); intro r' t' t2' nb' h' tk' r0' r1' F' N'; (try dsimp only); (try k_sweep)))
set_option maxHeartbeats 32000000 in
theorem turn_none (prog : Program) (w : World) (p : Program) (loose : List Str) (mean : ExcName → Option Value) (mg mb : Str → Option Value)
    (dp un : Nat) (gd : Option (List Code)) (fa : Addr) (ccd : Value) (outer : List Env) (A₀ : Around) (base h₀ : Heap) (L : Addr) (s : Shared) (R : Flow → Shared → Prop) (E : Value → Shared → Prop)
    (body : List Stmt) (scope : Scope) (hbody : lawTurn = some (body, scope)) (u : Str → Option Value)
    (k : Nat) (hk : k < 9) (d room u0 u1 u2 times ap : Int) (m0 m2 low alone : Bool) (H : LI d room u0 u1 u2 m0 m2 none times low alone k)
    (sL due met dc box cl : Addr) (nl nd nm nb nc : Nat) (odc : Obj) (S0 S1 S2 : SF) (ti td v0 v1 v2 tb tt tr ta : Tok) (own Y : List (Addr × Obj)) (vs : List Value) (ns : List Int)
    (B : Below A₀ base outer h₀)
    (F : Fr h₀ L s.heap (fun y => if y = "turn" then some (.int (k : Int) ti) else if y = "senders" then some (.ref sL) else if y = "due" then some (.ref due) else if y = "met" then some (.ref met) else if y = "box" then some (.ref box)
      else if y = "room" then some (.int room tr) else if y = "apart" then some .none else if y = "times" then some (.int times tt) else if y = "is_low" then some (.bool low) else if y = "is_alone" then some (.bool alone) else u y))
    (X : (hd.heap_1 w.params).In h₀)
    (Z : List (Addr × Obj)) (thr0 rec0 thr1 rec1 thr2 rec2 : Value) (q0 q1 q2 q3 q4 q5 q6 q7 q8 : Tok)
    (hYZ : ∀ q, q ∈ S0.eye w d u0 thr0 rec0 q0 q1 q2 ++ (S1.eye w d u1 thr1 rec1 q3 q4 q5 ++ (S2.eye w d u2 thr2 rec2 q6 q7 q8 ++ Z)) ↔ q ∈ Y)
    (N : News h₀ L s.heap (vis S0 S1 S2 sL due met dc box cl nl nd nm odc (PySem.W.listOf #[.ref cl, .int (5 + k) tb] nb) (PySem.W.listOf vs.toArray nc) u0 u1 u2 v0 v1 v2 m0 m0 m2 (S0.eye w d u0 thr0 rec0 q0 q1 q2 ++ (S1.eye w d u1 thr1 rec1 q3 q4 q5 ++ (S2.eye w d u2 thr2 rec2 q6 q7 q8 ++ (own ++ Z))))))
    (hvs : IntsAre vs ns) (hlen : ns.length < 2 ^ 30)
    (hdc : odc.data = .cell (some (.int d td)))
    (T : Top p loose mean mg mb h₀) (hap : AllApart [sL, due, met, dc, box, cl]) (hoo : OwnOff own [sL, due, met, dc, box, cl]) (hoY : OwnOff Y [sL, due, met, dc, box, cl]) (hoy : ∀ q ∈ own, ∀ r ∈ Y, q.1 ≠ r.1)
    (hS : Sys prog w d S0 S1 S2 ⟨2 * k, u0, m0, k⟩ ⟨2 * k, u1, m0, k⟩ ⟨2 * k, u2, m2, k⟩ Y) (hd0 : 10 ≤ d) (hd1 : d < 50) (hr : 12 * d ≤ room) (hr1 : room < 10000)
    (hE : PassesOwn (model prog w) (ktrTop dp un gd "law" scope L fa ccd [("datagram", dc)] outer) (envX "law" scope L fa ccd [("datagram", dc)]) E)
    (hdp : dp + 60 < recursionLimit) (hun : un + 800 < cLine)
    (hret : ∀ (h' : Heap) (tk' : Nat) (m' : Str → Option Value) (Y' : List (Addr × Obj)) (nd nm nb : Nat) (tb v0 v1 v2 tt : Tok) (u0 u1 u2 times : Int) (m0 m2 : Bool) (ap : Option Int) (apv : Value) (low alone : Bool),
      Looks m' sL due met box room times tr tt apv low alone → IsAp ap apv → LI d room u0 u1 u2 m0 m2 ap times low alone (k + 1) →
      Sys prog w d S0 S1 S2 ⟨2 * (k + 1 : Nat), u0, m0, (k + 1 : Nat)⟩ ⟨2 * (k + 1 : Nat), u1, m0, (k + 1 : Nat)⟩ ⟨2 * (k + 1 : Nat), u2, m2, (k + 1 : Nat)⟩ Y' → OwnOff Y' [sL, due, met, dc, box, cl] → (∀ q ∈ own, ∀ r ∈ Y', q.1 ≠ r.1) →
      Fr h₀ L h' m' → News h₀ L h' (vis S0 S1 S2 sL due met dc box cl nl nd nm odc (PySem.W.listOf #[.ref cl, .int (5 + k + 1) tb] nb) (PySem.W.listOf vs.toArray nc) u0 u1 u2 v0 v1 v2 m0 m0 m2 (own ++ Y')) → R .next { s with heap := h', toks := tk' }) :
    wpAny (model prog w) (ktrTop dp un gd "law" scope L fa ccd [("datagram", dc)] outer) (execs body (envX "law" scope L fa ccd [("datagram", dc)])) R E s := by
  have hMk : KstMark := kstMark
  have hb : some (_, _) = some (body, scope) := hbody
  injection hb with hb
  injection hb with hb hs
  subst hb hs
  have hap' := hap
  simp only [AllApart] at hap'
  obtain ⟨_, _, _, _, _, _, _⟩ := hap'
  have hnx := fun bes full hf => H.next (bes := bes) (full := full) hk hd0 hd1 hr hf
  obtain ⟨l0, l1, l2, hh0, hh1, hh2, le, mm, no, so, lo, ht0, ht1⟩ := H
  have hq : (2 : Int) ^ k ≤ 256 := pow_256 (by omega)
  have hw0 : u0 < 500000 := by omega
  have hw1 : u1 < 500000 := by omega
  have hw2 : u2 < 500000 := by omega
  clear hh0 hh1 hh2 hq
  have hoZ : OwnOff Z [sL, due, met, dc, box, cl] := fun q hq => hoY q ((hYZ q).mp (List.mem_append.mpr (.inr (List.mem_append.mpr (.inr (List.mem_append.mpr (.inr hq)))))))
  obtain ⟨_, _, _, _, _, _, _, _, _⟩ := aps_eyes hoY hYZ
  simp only [SF.eye, vis, List.cons_append, List.nil_append] at N
  have g0 : [u0, u1, u2].getD (Int.toNat 0) 0 = u0 := rfl
  have g1 : [u0, u1, u2].getD (Int.toNat 1) 0 = u1 := rfl
  have g2 : [u0, u1, u2].getD (Int.toNat 2) 0 = u2 := rfl
  k_steps
  (all_goals (try k_data))
  all_goals (
    refine' hret _ _ _ _ _ _ _ _ _ _ _ _ _ _ _ _ _ _ _ _ _ _ ⟨?l1, ?l2, ?l3, ?l4, ?l5, ?l6, ?l7, ?l8, ?l9⟩ ?ia (li_end hnx rfl ?x0 ?x1 ?x2 ?ha ?ht ?hl ?hal) ?S ?oY ?oy ?F ?N
    case F => k_asm
    case S => assumption
    case N => k_asm
    case l1 => exact rfl
    case l2 => exact rfl
    case l3 => exact rfl
    case l4 => exact rfl
    case l5 => exact rfl
    case l6 => exact rfl
    case l7 => exact rfl
    case l8 => exact rfl
    case l9 => exact rfl
    case oY => assumption
    case oy => assumption
    case ia => first | exact IsAp.none | exact IsAp.some
    case x0 => assumption
    case x1 => assumption
    case x2 => assumption
    case ha => first | (rename room < u0 + (u1 + (u2 + 0)) => hX; rw [decide_eq_true hX]; rfl) | (rename ¬ (room < u0 + (u1 + (u2 + 0))) => hX; rw [decide_eq_false hX]; rfl) | fail "ha"
    case ht => first | (rename room < u0 + (u1 + (u2 + 0)) => hX; rw [decide_eq_true hX]; rfl) | (rename ¬ (room < u0 + (u1 + (u2 + 0))) => hX; rw [decide_eq_false hX]; rfl) | fail "ht"
    case hl => first | rfl | assumption | (with_unfolding_all assumption) | fail "hl"
    case hal => first | (refine' al1 ?h; (case h => assumption)) | (refine' al2 ?h ?h2; (case h => assumption); (case h2 => assumption)) | (refine' al3 ?h ?h2; (case h => assumption); (case h2 => assumption)) | fail "hal")

/- TurnS -/
set_option maxHeartbeats 32000000 in
theorem turn_some (prog : Program) (w : World) (p : Program) (loose : List Str) (mean : ExcName → Option Value) (mg mb : Str → Option Value)
    (dp un : Nat) (gd : Option (List Code)) (fa : Addr) (ccd : Value) (outer : List Env) (A₀ : Around) (base h₀ : Heap) (L : Addr) (s : Shared) (R : Flow → Shared → Prop) (E : Value → Shared → Prop)
    (body : List Stmt) (scope : Scope) (hbody : lawTurn = some (body, scope)) (u : Str → Option Value)
    (k : Nat) (hk : k < 9) (d room u0 u1 u2 times ap : Int) (m0 m2 low alone : Bool) (H : LI d room u0 u1 u2 m0 m2 (some ap) times low alone k)
    (sL due met dc box cl : Addr) (nl nd nm nb nc : Nat) (odc : Obj) (S0 S1 S2 : SF) (ti td v0 v1 v2 tb tt tr ta : Tok) (own Y : List (Addr × Obj)) (vs : List Value) (ns : List Int)
    (B : Below A₀ base outer h₀)
    (F : Fr h₀ L s.heap (fun y => if y = "turn" then some (.int (k : Int) ti) else if y = "senders" then some (.ref sL) else if y = "due" then some (.ref due) else if y = "met" then some (.ref met) else if y = "box" then some (.ref box)
      else if y = "room" then some (.int room tr) else if y = "apart" then some (.int ap ta) else if y = "times" then some (.int times tt) else if y = "is_low" then some (.bool low) else if y = "is_alone" then some (.bool alone) else u y))
    (X : (hd.heap_1 w.params).In h₀)
    (Z : List (Addr × Obj)) (thr0 rec0 thr1 rec1 thr2 rec2 : Value) (q0 q1 q2 q3 q4 q5 q6 q7 q8 : Tok)
    (hYZ : ∀ q, q ∈ S0.eye w d u0 thr0 rec0 q0 q1 q2 ++ (S1.eye w d u1 thr1 rec1 q3 q4 q5 ++ (S2.eye w d u2 thr2 rec2 q6 q7 q8 ++ Z)) ↔ q ∈ Y)
    (N : News h₀ L s.heap (vis S0 S1 S2 sL due met dc box cl nl nd nm odc (PySem.W.listOf #[.ref cl, .int (5 + k) tb] nb) (PySem.W.listOf vs.toArray nc) u0 u1 u2 v0 v1 v2 m0 m0 m2 (S0.eye w d u0 thr0 rec0 q0 q1 q2 ++ (S1.eye w d u1 thr1 rec1 q3 q4 q5 ++ (S2.eye w d u2 thr2 rec2 q6 q7 q8 ++ (own ++ Z))))))
    (hvs : IntsAre vs ns) (hlen : ns.length < 2 ^ 30)
    (hdc : odc.data = .cell (some (.int d td)))
    (T : Top p loose mean mg mb h₀) (hap : AllApart [sL, due, met, dc, box, cl]) (hoo : OwnOff own [sL, due, met, dc, box, cl]) (hoY : OwnOff Y [sL, due, met, dc, box, cl]) (hoy : ∀ q ∈ own, ∀ r ∈ Y, q.1 ≠ r.1)
    (hS : Sys prog w d S0 S1 S2 ⟨2 * k, u0, m0, k⟩ ⟨2 * k, u1, m0, k⟩ ⟨2 * k, u2, m2, k⟩ Y) (hd0 : 10 ≤ d) (hd1 : d < 50) (hr : 12 * d ≤ room) (hr1 : room < 10000)
    (hE : PassesOwn (model prog w) (ktrTop dp un gd "law" scope L fa ccd [("datagram", dc)] outer) (envX "law" scope L fa ccd [("datagram", dc)]) E)
    (hdp : dp + 60 < recursionLimit) (hun : un + 800 < cLine)
    (hret : ∀ (h' : Heap) (tk' : Nat) (m' : Str → Option Value) (Y' : List (Addr × Obj)) (nd nm nb : Nat) (tb v0 v1 v2 tt : Tok) (u0 u1 u2 times : Int) (m0 m2 : Bool) (ap : Option Int) (apv : Value) (low alone : Bool),
      Looks m' sL due met box room times tr tt apv low alone → IsAp ap apv → LI d room u0 u1 u2 m0 m2 ap times low alone (k + 1) →
      Sys prog w d S0 S1 S2 ⟨2 * (k + 1 : Nat), u0, m0, (k + 1 : Nat)⟩ ⟨2 * (k + 1 : Nat), u1, m0, (k + 1 : Nat)⟩ ⟨2 * (k + 1 : Nat), u2, m2, (k + 1 : Nat)⟩ Y' → OwnOff Y' [sL, due, met, dc, box, cl] → (∀ q ∈ own, ∀ r ∈ Y', q.1 ≠ r.1) →
      Fr h₀ L h' m' → News h₀ L h' (vis S0 S1 S2 sL due met dc box cl nl nd nm odc (PySem.W.listOf #[.ref cl, .int (5 + k + 1) tb] nb) (PySem.W.listOf vs.toArray nc) u0 u1 u2 v0 v1 v2 m0 m0 m2 (own ++ Y')) → R .next { s with heap := h', toks := tk' }) :
    wpAny (model prog w) (ktrTop dp un gd "law" scope L fa ccd [("datagram", dc)] outer) (execs body (envX "law" scope L fa ccd [("datagram", dc)])) R E s := by
  have hMk : KstMark := kstMark
  have hb : some (_, _) = some (body, scope) := hbody
  injection hb with hb
  injection hb with hb hs
  subst hb hs
  have hap' := hap
  simp only [AllApart] at hap'
  obtain ⟨_, _, _, _, _, _, _⟩ := hap'
  have hnx := fun bes full hf => H.next (bes := bes) (full := full) hk hd0 hd1 hr hf
  obtain ⟨l0, l1, l2, hh0, hh1, hh2, le, mm, no, so, lo, ht0, ht1⟩ := H
  have hq : (2 : Int) ^ k ≤ 256 := pow_256 (by omega)
  have hw0 : u0 < 500000 := by omega
  have hw1 : u1 < 500000 := by omega
  have hw2 : u2 < 500000 := by omega
  clear hh0 hh1 hh2 hq
  have hoZ : OwnOff Z [sL, due, met, dc, box, cl] := fun q hq => hoY q ((hYZ q).mp (List.mem_append.mpr (.inr (List.mem_append.mpr (.inr (List.mem_append.mpr (.inr hq)))))))
  obtain ⟨_, _, _, _, _, _, _, _, _⟩ := aps_eyes hoY hYZ
  simp only [SF.eye, vis, List.cons_append, List.nil_append] at N
  have g0 : [u0, u1, u2].getD (Int.toNat 0) 0 = u0 := rfl
  have g1 : [u0, u1, u2].getD (Int.toNat 1) 0 = u1 := rfl
  have g2 : [u0, u1, u2].getD (Int.toNat 2) 0 = u2 := rfl
  obtain ⟨hm0, hgap, halo, hap1, hap2⟩ := so ap rfl
  have c1 : 0 ≤ ap → 0 ≤ u0 - u1 ∧ (u0 - u1) * 2 ^ times.toNat < ap + 2 ^ times.toNat := hgap.1
  have c2 : ap < 0 → 0 ≤ u1 - u0 ∧ (u1 - u0) * 2 ^ times.toNat < - ap + 2 ^ times.toNat := hgap.2
  clear so hgap hm0
  k_steps
  (all_goals (try k_data))
  all_goals (
    refine' hret _ _ _ _ _ _ _ _ _ _ _ _ _ _ _ _ _ _ _ _ _ _ ⟨?l1, ?l2, ?l3, ?l4, ?l5, ?l6, ?l7, ?l8, ?l9⟩ ?ia (li_end hnx rfl ?x0 ?x1 ?x2 ?ha ?ht ?hl ?hal) ?S ?oY ?oy ?F ?N
    case F => k_asm
    case S => assumption
    case N => k_asm
    case l1 => exact rfl
    case l2 => exact rfl
    case l3 => exact rfl
    case l4 => exact rfl
    case l5 => exact rfl
    case l6 => exact rfl
    case l7 => exact rfl
    case l8 => exact rfl
    case l9 => exact rfl
    case oY => assumption
    case oy => assumption
    case ia => first | exact IsAp.none | exact IsAp.some
    case x0 => assumption
    case x1 => assumption
    case x2 => assumption
    case ha => first | (rename room < u0 + (u1 + (u2 + 0)) => hX; rw [decide_eq_true hX]; rfl) | (rename ¬ (room < u0 + (u1 + (u2 + 0))) => hX; rw [decide_eq_false hX]; rfl) | fail "ha"
    case ht => first | (rename room < u0 + (u1 + (u2 + 0)) => hX; rw [decide_eq_true hX]; rfl) | (rename ¬ (room < u0 + (u1 + (u2 + 0))) => hX; rw [decide_eq_false hX]; rfl) | fail "ht"
    case hl => first | rfl | assumption | (with_unfolding_all assumption) | fail "hl"
    case hal => first | (refine' al1 ?h; (case h => assumption)) | (refine' al2 ?h ?h2; (case h => assumption); (case h2 => assumption)) | (refine' al3 ?h ?h2; (case h => assumption); (case h2 => assumption)) | fail "hal")
end
end
end

/- Outer -/
section
open PySem PySem.W PyProof.Rows PySem.Calls PySem.Spec
theorem Snd.open {prog : Program} {w : World} {S : SF} {d now win n : Int} {met : Bool} {A : List (Addr × Obj)} (h : Snd prog w S d now win met n A) : ∃ thr rec t2 t5 t6 Z, A = S.eye w d win thr rec t2 t5 t6 ++ Z := by
  cases h with
  | first => exact ⟨_, _, _, _, _, _, rfl⟩
  | later => exact ⟨_, _, _, _, _, _, rfl⟩
theorem Sys.open {prog : Program} {w : World} {d : Int} {S0 S1 S2 : SF} {a b c : SS} {Y : List (Addr × Obj)} (h : Sys prog w d S0 S1 S2 a b c Y) :
    ∃ thr0 rec0 thr1 rec1 thr2 rec2 q0 q1 q2 q3 q4 q5 q6 q7 q8 Z, ∀ q, q ∈ S0.eye w d a.win thr0 rec0 q0 q1 q2 ++ (S1.eye w d b.win thr1 rec1 q3 q4 q5 ++ (S2.eye w d c.win thr2 rec2 q6 q7 q8 ++ Z)) ↔ q ∈ Y := by
  obtain ⟨L0, L1, L2, h0, h1, h2, _, _, _, rfl⟩ := h
  obtain ⟨thr0, rec0, q0, q1, q2, Z0, rfl⟩ := h0.open
  obtain ⟨thr1, rec1, q3, q4, q5, Z1, rfl⟩ := h1.open
  obtain ⟨thr2, rec2, q6, q7, q8, Z2, rfl⟩ := h2.open
  refine ⟨thr0, rec0, thr1, rec1, thr2, rec2, q0, q1, q2, q3, q4, q5, q6, q7, q8, Z0 ++ (Z1 ++ Z2), fun q => ?_⟩
  generalize S0.eye w d a.win thr0 rec0 q0 q1 q2 = e0
  generalize S1.eye w d b.win thr1 rec1 q3 q4 q5 = e1
  generalize S2.eye w d c.win thr2 rec2 q6 q7 q8 = e2
  simp only [List.mem_append]
  constructor
  · rintro (h | h | h | h | h | h) <;> simp [h]
  · rintro ((h | h) | (h | h) | h | h) <;> simp [h]

theorem nameT {m u : Str → Option Value} {k : Str} {v : Option Value} (h : m k = v) (e : ∀ y, u y = m y) (y : Str) : (if y = k then v else u y) = m y := by
  by_cases hy : y = k
  · rw [if_pos hy, hy, h]
  · rw [if_neg hy, e]
theorem frame_of {m : Str → Option Value} {sL due met box : Addr} {room times : Int} {tr tt ti : Tok} {apv : Value} {low alone : Bool} {k : Int} (H : Looks m sL due met box room times tr tt apv low alone) :
    (fun (y : Str) => if y = ("turn" : Str) then some (Value.int k ti) else m y) =
    (fun (y : Str) => if y = ("turn" : Str) then some (.int k ti) else if y = "senders" then some (.ref sL) else if y = "due" then some (.ref due) else if y = "met" then some (.ref met) else if y = "box" then some (.ref box)
      else if y = "room" then some (.int room tr) else if y = "apart" then some apv else if y = "times" then some (.int times tt) else if y = "is_low" then some (.bool low) else if y = "is_alone" then some (.bool alone) else m y) := by
  funext y
  by_cases hy : y = ("turn" : Str)
  · rw [if_pos hy, if_pos hy]
  · rw [if_neg hy, if_neg hy]
    exact (nameT H.h1 (nameT H.h2 (nameT H.h3 (nameT H.h4 (nameT H.h5 (nameT H.h6 (nameT H.h7 (nameT H.h8 (nameT H.h9 fun _ => rfl)))))))) y).symm

/-- between the rounds -/
def JT (prog : Program) (w : World) (d room : Int) (S0 S1 S2 : SF) (sL due met dc box cl : Addr) (nl nc : Nat) (odc : Obj) (vs : List Value) (k : Nat) (m : Str → Option Value) (nx : List (Addr × Obj)) : Prop :=
  ∃ (Y : List (Addr × Obj)) (nd nm nb : Nat) (tb v0 v1 v2 tr tt : Tok) (u0 u1 u2 times : Int) (m0 m2 : Bool) (ap : Option Int) (apv : Value) (low alone : Bool),
    Looks m sL due met box room times tr tt apv low alone ∧ IsAp ap apv ∧ LI d room u0 u1 u2 m0 m2 ap times low alone k ∧ Sys prog w d S0 S1 S2 ⟨2 * k, u0, m0, k⟩ ⟨2 * k, u1, m0, k⟩ ⟨2 * k, u2, m2, k⟩ Y ∧
    OwnOff Y [sL, due, met, dc, box, cl] ∧
    nx = vis S0 S1 S2 sL due met dc box cl nl nd nm odc (PySem.W.listOf #[.ref cl, .int (5 + k) tb] nb) (PySem.W.listOf vs.toArray nc) u0 u1 u2 v0 v1 v2 m0 m0 m2 Y

theorem outer_turn (prog : Program) (w : World) (p : Program) (loose : List Str) (mean : ExcName → Option Value) (mg mb : Str → Option Value)
    (dp un : Nat) (gd : Option (List Code)) (fa : Addr) (ccd : Value) (outer : List Env) (A₀ : Around) (base h₀ : Heap) (L : Addr) (s : Shared) (Q : Flow → Shared → Prop) (E : Value → Shared → Prop)
    (body : List Stmt) (scope : Scope) (hbody : lawTurn = some (body, scope))
    (k : Nat) (hk : k < 9) (d room : Int) (sL due met dc box cl : Addr) (nl nc : Nat) (odc : Obj) (S0 S1 S2 : SF) (ti td : Tok) (own : List (Addr × Obj)) (vs : List Value) (ns : List Int) (m₁ : Str → Option Value) (nx : List (Addr × Obj))
    (B : Below A₀ base outer h₀) (X : (hd.heap_1 w.params).In h₀) (hvs : IntsAre vs ns) (hlen : ns.length < 2 ^ 30)
    (hdc : odc.data = .cell (some (.int d td))) (T : Top p loose mean mg mb h₀) (hap : AllApart [sL, due, met, dc, box, cl]) (hd0 : 10 ≤ d) (hd1 : d < 50) (hr : 12 * d ≤ room) (hr1 : room < 10000)
    (hE : PassesOwn (model prog w) (ktrTop dp un gd "law" scope L fa ccd [("datagram", dc)] outer) (envX "law" scope L fa ccd [("datagram", dc)]) E)
    (hdp : dp + 60 < recursionLimit) (hun : un + 800 < cLine)
    (hoff : OwnOff own (nx.map (·.1))) (hJ : JT prog w d room S0 S1 S2 sL due met dc box cl nl nc odc vs k m₁ nx)
    (F₁ : Fr h₀ L s.heap (fun y => if y = "turn" then some (.int (k : Int) ti) else m₁ y)) (N₁ : News h₀ L s.heap (nx ++ own)) :
    wpAny (model prog w) (ktrTop dp un gd "law" scope L fa ccd [("datagram", dc)] outer) (execs body (envX "law" scope L fa ccd [("datagram", dc)]))
      (InvPostG h₀ L (JT prog w d room S0 S1 S2 sL due met dc box cl nl nc odc vs (k + 1)) own s Q) E s := by
  obtain ⟨Y, nd, nm, nb, tb, v0, v1, v2, tr, tt, u0, u1, u2, times, m0, m2, ap, apv, low, alone, hlk, hapv, hLI, hS, hoY, rfl⟩ := hJ
  rw [frame_of hlk] at F₁
  obtain ⟨ho1, ho2⟩ := vis_own hoff
  obtain ⟨thr0, rec0, thr1, rec1, thr2, rec2, q0, q1, q2, q3, q4, q5, q6, q7, q8, Z, hYZ⟩ := hS.open
  have N₂ := kst_newsOf (l' := vis S0 S1 S2 sL due met dc box cl nl nd nm odc (PySem.W.listOf #[.ref cl, .int (5 + k) tb] nb) (PySem.W.listOf vs.toArray nc) u0 u1 u2 v0 v1 v2 m0 m0 m2 (S0.eye w d u0 thr0 rec0 q0 q1 q2 ++ (S1.eye w d u1 thr1 rec1 q3 q4 q5 ++ (S2.eye w d u2 thr2 rec2 q6 q7 q8 ++ (own ++ Z))))) N₁
    (sub_cons (sub_cons (sub_cons (sub_cons (sub_cons (sub_cons (fun q hq => by
      have hh := hYZ q
      refine List.mem_append.mpr ?_
      simp only [List.mem_append] at hq hh
      rcases hq with h | h | h | h | h
      · exact .inl (hh.mp (.inl h))
      · exact .inl (hh.mp (.inr (.inl h)))
      · exact .inl (hh.mp (.inr (.inr (.inl h))))
      · exact .inr h
      · exact .inl (hh.mp (.inr (.inr (.inr h)))))))))))
  have close : ∀ (h' : Heap) (tk' : Nat) (m' : Str → Option Value) (Y' : List (Addr × Obj)) (nd nm nb : Nat) (tb v0 v1 v2 tt : Tok) (u0 u1 u2 times : Int) (m0 m2 : Bool) (ap : Option Int) (apv : Value) (low alone : Bool),
      Looks m' sL due met box room times tr tt apv low alone → IsAp ap apv → LI d room u0 u1 u2 m0 m2 ap times low alone (k + 1) →
      Sys prog w d S0 S1 S2 ⟨2 * (k + 1 : Nat), u0, m0, (k + 1 : Nat)⟩ ⟨2 * (k + 1 : Nat), u1, m0, (k + 1 : Nat)⟩ ⟨2 * (k + 1 : Nat), u2, m2, (k + 1 : Nat)⟩ Y' → OwnOff Y' [sL, due, met, dc, box, cl] → (∀ q ∈ own, ∀ r ∈ Y', q.1 ≠ r.1) →
      Fr h₀ L h' m' → News h₀ L h' (vis S0 S1 S2 sL due met dc box cl nl nd nm odc (PySem.W.listOf #[.ref cl, .int (5 + k + 1) tb] nb) (PySem.W.listOf vs.toArray nc) u0 u1 u2 v0 v1 v2 m0 m0 m2 (own ++ Y')) →
      InvPostG h₀ L (JT prog w d room S0 S1 S2 sL due met dc box cl nl nc odc vs (k + 1)) own s Q .next { s with heap := h', toks := tk' } := by
    intro h' tk' m' Y' nd nm nb tb v0 v1 v2 tt u0 u1 u2 times m0 m2 ap apv low alone hlk' hap' hLI' hS' hoY' hoy' F' N'
    have e5 : 5 + (k : Int) + 1 = 5 + ((k + 1 : Nat) : Int) := by omega
    rw [e5] at N'
    refine ⟨h', tk', _, _, _, rfl, F', N', ?_, ?_, ?_, Y', nd, nm, nb, tb, v0, v1, v2, tr, tt, u0, u1, u2, times, m0, m2, ap, apv, low, alone, hlk', hap', hLI', hS', hoY', rfl⟩
    · exact sub_cons (sub_cons (sub_cons (sub_cons (sub_cons (sub_cons (fun q hq => List.mem_append.mpr (.inr hq)))))))
    · exact fun q hq => .tail _ (.tail _ (.tail _ (.tail _ (.tail _ (.tail _ (List.mem_append.mpr (.inl hq)))))))
    · exact own_vis ho1 hoy'
  cases hapv with
  | none =>
    exact turn_none prog w p loose mean mg mb dp un gd fa ccd outer A₀ base h₀ L s _ E body scope hbody m₁ k hk d room u0 u1 u2 times 0 m0 m2 low alone hLI sL due met dc box cl nl nd nm nb nc odc S0 S1 S2 ti td v0 v1 v2 tb tt tr td own Y vs ns B F₁ X Z thr0 rec0 thr1 rec1 thr2 rec2 q0 q1 q2 q3 q4 q5 q6 q7 q8 hYZ N₂
      hvs hlen hdc T hap ho1 hoY ho2 hS hd0 hd1 hr hr1 hE hdp hun close
  | some =>
    exact turn_some prog w p loose mean mg mb dp un gd fa ccd outer A₀ base h₀ L s _ E body scope hbody m₁ k hk d room u0 u1 u2 times _ m0 m2 low alone hLI sL due met dc box cl nl nd nm nb nc odc S0 S1 S2 ti td v0 v1 v2 tb tt tr _ own Y vs ns B F₁ X Z thr0 rec0 thr1 rec1 thr2 rec2 q0 q1 q2 q3 q4 q5 q6 q7 q8 hYZ N₂
      hvs hlen hdc T hap ho1 hoY ho2 hS hd0 hd1 hr hr1 hE hdp hun close

theorem outer_loop {prog : Program} {w : World} {p : Program} {loose : List Str} {mean : ExcName → Option Value} {mg mb : Str → Option Value}
    {dp un : Nat} {gd : Option (List Code)} {fa : Addr} {ccd : Value} {outer : List Env} {A₀ : Around} {base h₀ : Heap} {L : Addr} {s : Shared} {Q : Flow → Shared → Prop} {E : Value → Shared → Prop}
    {body : List Stmt} {scope : Scope} (hbody : lawTurn = some (body, scope))
    {d room : Int} {sL due met dc box cl : Addr} {nl nc : Nat} {odc : Obj} {S0 S1 S2 : SF} {td : Tok} {vs : List Value} {ns : List Int} {m₀ : Str → Option Value} {news nx : List (Addr × Obj)}
    {r : Addr} {t₀ r₀ w₀ : Tok} (hr' : IsRange s.heap r 0 9 1 t₀ r₀ w₀)
    (B : Below A₀ base outer h₀) (F : Fr h₀ L s.heap m₀) (X : (hd.heap_1 w.params).In h₀) (N : News h₀ L s.heap news) (hn : ∀ q ∈ nx, q ∈ news) (hvs : IntsAre vs ns) (hlen : ns.length < 2 ^ 30)
    (hdc : odc.data = .cell (some (.int d td))) (T : Top p loose mean mg mb h₀) (hap : AllApart [sL, due, met, dc, box, cl]) (hd0 : 10 ≤ d) (hd1 : d < 50) (hr : 12 * d ≤ room) (hr1 : room < 10000)
    (hE : PassesOwn (model prog w) (ktrTop dp un gd "law" scope L fa ccd [("datagram", dc)] outer) (envX "law" scope L fa ccd [("datagram", dc)]) E)
    (hdp : dp + 60 < recursionLimit) (hun : un + 800 < cLine)
    (hJ : JT prog w d room S0 S1 S2 sL due met dc box cl nl nc odc vs 0 m₀ nx)
    (hret : ∀ m₁ h tk nx, JT prog w d room S0 S1 S2 sL due met dc box cl nl nc odc vs 9 m₁ nx → Fr h₀ L h m₁ → News h₀ L h nx → Q .next { s with heap := h, toks := tk }) :
    wpAny (model prog w) (ktrTop dp un gd "law" scope L fa ccd [("datagram", dc)] outer) (pyIter (.ref r))
      (fun it s₂ => LoopAtV prog w (ktrTop dp un gd "law" scope L fa ccd [("datagram", dc)] outer) h₀ (envX "law" scope L fa ccd [("datagram", dc)]) "turn" body Q E it s₂) E s := by
  refine range_inv (env := envX "law" scope L fa ccd [("datagram", dc)]) (n := 9) (JT prog w d room S0 S1 S2 sL due met dc box cl nl nc odc vs) rfl hr' (by decide) (by rfl) F N hn hJ ?_ ?_
  · intro k t m₁ nx h tk own hk hoff hJ F₁ N₁
    exact outer_turn prog w p loose mean mg mb dp un gd fa ccd outer A₀ base h₀ L { s with heap := h, toks := tk } Q E body scope hbody k hk d room sL due met dc box cl nl nc odc S0 S1 S2 t td own vs ns m₁ nx B X hvs hlen hdc T hap hd0 hd1 hr hr1 hE hdp hun hoff hJ F₁ N₁
  · intro m₁ nx h tk hJ F₁ N₁
    exact hret m₁ h tk nx hJ F₁ N₁
end

/- OuterU -/
section
open PySem PySem.W PyProof.Rows PySem.Calls PySem.Spec
theorem own6 {Y : List (Addr × Obj)} {a1 a2 a3 a4 a5 a6 : Addr} (h1 : ∀ q ∈ Y, q.1 ≠ a1) (h2 : ∀ q ∈ Y, q.1 ≠ a2) (h3 : ∀ q ∈ Y, q.1 ≠ a3) (h4 : ∀ q ∈ Y, q.1 ≠ a4) (h5 : ∀ q ∈ Y, q.1 ≠ a5) (h6 : ∀ q ∈ Y, q.1 ≠ a6) : OwnOff Y [a1, a2, a3, a4, a5, a6] := by
  intro q hq b hb
  simp only [List.mem_cons, List.not_mem_nil, or_false] at hb
  rcases hb with rfl | rfl | rfl | rfl | rfl | rfl
  · exact h1 q hq
  · exact h2 q hq
  · exact h3 q hq
  · exact h4 q hq
  · exact h5 q hq
  · exact h6 q hq
theorem li_0 {d room a b c : Int} (hd0 : 10 ≤ d) (hd1 : d < 50) (ha0 : 0 ≤ a) (ha1 : a < 300) (hb0 : 0 ≤ b) (hb1 : b < 300) (hc0 : 0 ≤ c) (hc1 : c ≤ a) : LI d room (10 * d + a) (10 * d + b) (10 * d + c) false false none 0 false false 0 := by
  have e : (2 : Int) ^ 0 = 1 := rfl
  refine ⟨by omega, by omega, by omega, by rw [e]; omega, by rw [e]; omega, by rw [e]; omega, by omega, fun h => h, fun _ => ⟨rfl, rfl, rfl⟩, fun _ h => (nomatch h), fun h => (nomatch h), by omega, by omega⟩
theorem room_lo {d r : Int} (hd : 0 ≤ d) (hr : 0 ≤ r) : 12 * d ≤ d * (12 + r) := by
  have := Int.mul_nonneg hd hr
  rw [Int.mul_add, Int.mul_comm d 12]; omega
theorem room_hi {d r : Int} (hd : 0 ≤ d) (hd1 : d < 50) (hr : 0 ≤ r) (hr1 : r < 40) : d * (12 + r) < 10000 := by
  have := Int.mul_le_mul (show d ≤ 49 by omega) (show 12 + r ≤ 51 by omega) (by omega) (by omega)
  omega
theorem name1 {m : Str → Option Value} {k : Str} {v : Value} (h : m k = some v) : (fun y => if y = k then some v else m y) = m := by
  funext y
  by_cases e : y = k
  · rw [if_pos e, e, h]
  · rw [if_neg e]
theorem name2 {m : Str → Option Value} {k1 k2 : Str} {v1 v2 : Value} (h1 : m k1 = some v1) (h2 : m k2 = some v2) : (fun y => if y = k1 then some v1 else if y = k2 then some v2 else m y) = m := by
  funext y
  by_cases e : y = k1
  · rw [if_pos e, e, h1]
  rw [if_neg e]
  by_cases e : y = k2
  · rw [if_pos e, e, h2]
  · rw [if_neg e]

theorem s6_use {prog : Program} {w : World} {p : Program} {loose : List Str} {mean : ExcName → Option Value} {mg mb : Str → Option Value}
    {dp un : Nat} {gd : Option (List Code)} {fa : Addr} {ccd : Value} {outer : List Env} {A₀ : Around} {base h₀ : Heap} {L : Addr} {s : Shared} {R : Flow → Shared → Prop} {E : Value → Shared → Prop}
    {st : Stmt} {scope : Scope} (hst : lawS 5 = some (st, scope)) {m : Str → Option Value}
    {d a b c : Int} {ng : Nat} {dc gr : Addr} {ta tb tc td : Tok} {odc : Obj} {news rest : List (Addr × Obj)}
    (B : Below A₀ base outer h₀) (F : Fr h₀ L s.heap m) (hg : m "grown" = some (.ref gr)) (X : (hd.heap_1 w.params).In h₀)
    (N : News h₀ L s.heap news) (P : Picks [(gr, PySem.W.listOf #[.int a ta, .int b tb, .int c tc] ng), (dc, odc)] news rest)
    (hdc : odc.data = .cell (some (.int d td))) (T : Top p loose mean mg mb h₀)
    (hd0 : 10 ≤ d) (hd1 : d < 50) (ha0 : 0 ≤ a) (ha1 : a < 300) (hb0 : 0 ≤ b) (hb1 : b < 300) (hc0 : 0 ≤ c) (hc1 : c < 300)
    (hdp : dp + 40 < recursionLimit) (hun : un + 400 < cLine)
    (hret : ∀ (h' : Heap) (tk' : Nat) (S0 S1 S2 : SF) (Y : List (Addr × Obj)) (sL dL : Addr) (z0 z1 z2 : Tok), Sys prog w d S0 S1 S2 ⟨0, 10 * d + a, false, 0⟩ ⟨0, 10 * d + b, false, 0⟩ ⟨0, 10 * d + c, false, 0⟩ Y →
      (∀ q ∈ Y, ∀ r ∈ (gr, PySem.W.listOf #[.int a ta, .int b tb, .int c tc] ng) :: (dc, odc) :: rest, q.1 ≠ r.1) →
      Aps sL (((gr, PySem.W.listOf #[.int a ta, .int b tb, .int c tc] ng) :: (dc, odc) :: rest).map (·.1)) → Aps dL (((gr, PySem.W.listOf #[.int a ta, .int b tb, .int c tc] ng) :: (dc, odc) :: rest).map (·.1)) → Apart sL dL → (∀ q ∈ Y, q.1 ≠ sL) → (∀ q ∈ Y, q.1 ≠ dL) →
      Fr h₀ L h' (fun y => if y = "senders" then some (.ref sL) else if y = "due" then some (.ref dL) else m y) →
      News h₀ L h' ((dL, PySem.W.listOf #[.int (10 * d + a) z0, .int (10 * d + b) z1, .int (10 * d + c) z2] 3) :: (sL, PySem.W.listOf #[.ref S0.sl, .ref S1.sl, .ref S2.sl] 3) :: (gr, PySem.W.listOf #[.int a ta, .int b tb, .int c tc] ng) :: (dc, odc) :: (rest ++ Y)) →
      R .next { s with heap := h', toks := tk' }) :
    wpAny (model prog w) (ktrTop dp un gd "law" scope L fa ccd [("datagram", dc)] outer) (exec st (envX "law" scope L fa ccd [("datagram", dc)])) R E s := by
  refine s6_tells prog w p loose mean mg mb dp un gd fa ccd outer A₀ base h₀ L s R E st scope hst m d a b c ng dc gr ta tb tc td odc rest B (by rw [name1 hg]; exact F) X (fun q hq => ?_) hdc T hd0 hd1 ha0 ha1 hb0 hb1 hc0 hc1 hdp hun ?_
  · rcases List.mem_cons.mp hq with rfl | hq
    · exact N _ (P.sub.1 _ (.head _))
    · rcases List.mem_cons.mp hq with rfl | hq
      · exact N _ (P.sub.1 _ (.tail _ (.head _)))
      · exact N _ (P.sub.2 _ hq)
  · intro h' tk' S0 S1 S2 Y sL dL z0 z1 z2 hS o1 o2 o3 o4 o5 F' N'
    refine hret h' tk' S0 S1 S2 Y sL dL z0 z1 z2 hS o1 (Aps.of fun q hq => (o2 q hq).symm) (Aps.of fun q hq => (o3 q hq).symm) ⟨o4⟩ (fun q hq => (o5 q hq).1) (fun q hq => (o5 q hq).2) ?_ N'
    have e : (fun (y : Str) => if y = ("senders" : Str) then some (Value.ref sL) else if y = "due" then some (.ref dL) else if y = "grown" then some (.ref gr) else m y) = fun (y : Str) => if y = ("senders" : Str) then some (Value.ref sL) else if y = "due" then some (.ref dL) else m y := by
      funext y
      exact congrArg (fun (f : Str → Option Value) => if y = ("senders" : Str) then some (Value.ref sL) else if y = "due" then some (.ref dL) else f y) (name1 hg)
    rw [e] at F'
    exact F'

theorem outer_use {prog : Program} {w : World} {p : Program} {loose : List Str} {mean : ExcName → Option Value} {mg mb : Str → Option Value}
    {dp un : Nat} {gd : Option (List Code)} {fa : Addr} {ccd : Value} {outer : List Env} {A₀ : Around} {base h₀ : Heap} {L : Addr} {s : Shared} {Q : Flow → Shared → Prop} {E : Value → Shared → Prop}
    {body : List Stmt} {scope : Scope} (hbody : lawTurn = some (body, scope))
    {d room a b c : Int} {sL due met dc box cl : Addr} {nl nd nm nb nc : Nat} {odc : Obj} {S0 S1 S2 : SF} {td tr tt tb v0 v1 v2 : Tok} {vs : List Value} {ns : List Int} {m₀ : Str → Option Value} {news Y : List (Addr × Obj)}
    {r : Addr} {t₀ r₀ w₀ : Tok} (hr' : IsRange s.heap r 0 9 1 t₀ r₀ w₀)
    (hS : Sys prog w d S0 S1 S2 ⟨0, 10 * d + a, false, 0⟩ ⟨0, 10 * d + b, false, 0⟩ ⟨0, 10 * d + c, false, 0⟩ Y)
    (B : Below A₀ base outer h₀) (F : Fr h₀ L s.heap m₀)
    (g1 : m₀ "senders" = some (.ref sL)) (g2 : m₀ "due" = some (.ref due)) (g3 : m₀ "met" = some (.ref met)) (g4 : m₀ "box" = some (.ref box)) (g5 : m₀ "room" = some (.int room tr)) (g6 : m₀ "apart" = some .none) (g7 : m₀ "times" = some (.int 0 tt))
    (g8 : m₀ "is_low" = some (.bool false)) (g9 : m₀ "is_alone" = some (.bool false))
    (X : (hd.heap_1 w.params).In h₀) (N : News h₀ L s.heap news)
    (i1 : (sL, PySem.W.listOf #[.ref S0.sl, .ref S1.sl, .ref S2.sl] nl) ∈ news) (i2 : (due, PySem.W.listOf #[.int (10 * d + a) v0, .int (10 * d + b) v1, .int (10 * d + c) v2] nd) ∈ news) (i3 : (met, PySem.W.listOf #[.bool false, .bool false, .bool false] nm) ∈ news)
    (i4 : (dc, odc) ∈ news) (i5 : (box, PySem.W.listOf #[.ref cl, .int 5 tb] nb) ∈ news) (i6 : (cl, PySem.W.listOf vs.toArray nc) ∈ news) (it : Tl Y news)
    (hvs : IntsAre vs ns) (hlen : ns.length < 2 ^ 30)
    (hdc : odc.data = .cell (some (.int d td))) (T : Top p loose mean mg mb h₀) (hap : AllApart [sL, due, met, dc, box, cl])
    (y1 : ∀ q ∈ Y, q.1 ≠ sL) (y2 : ∀ q ∈ Y, q.1 ≠ due) (y3 : ∀ q ∈ Y, q.1 ≠ met) (y4 : ∀ q ∈ Y, q.1 ≠ dc) (y5 : ∀ q ∈ Y, q.1 ≠ box) (y6 : ∀ q ∈ Y, q.1 ≠ cl)
    (hd0 : 10 ≤ d) (hd1 : d < 50) (hr : 12 * d ≤ room) (hr1 : room < 10000) (ha0 : 0 ≤ a) (ha1 : a < 300) (hb0 : 0 ≤ b) (hb1 : b < 300) (hc0 : 0 ≤ c) (hc1 : c ≤ a)
    (hE : PassesOwn (model prog w) (ktrTop dp un gd "law" scope L fa ccd [("datagram", dc)] outer) (envX "law" scope L fa ccd [("datagram", dc)]) E)
    (hdp : dp + 60 < recursionLimit) (hun : un + 800 < cLine)
    (hret : ∀ (h : Heap) (tk : Nat) (u : Str → Option Value) (nd : Nat) (v0 v1 v2 : Tok) (u0 u1 u2 : Int) (Y Z : List (Addr × Obj)) (thr0 rec0 thr1 rec1 thr2 rec2 : Value) (q0 q1 q2 q3 q4 q5 q6 q7 q8 : Tok),
      (∀ q, q ∈ S0.eye w d u0 thr0 rec0 q0 q1 q2 ++ (S1.eye w d u1 thr1 rec1 q3 q4 q5 ++ (S2.eye w d u2 thr2 rec2 q6 q7 q8 ++ Z)) → q ∈ Y) → (∀ q ∈ Y, q.1 ≠ sL ∧ q.1 ≠ due) → sL ≠ due →
      0 ≤ u0 → u0 < 1000000 → 0 ≤ u1 → u1 < 1000000 → 0 ≤ u2 → u2 < 1000000 →
      Fr h₀ L h (fun y => if y = "senders" then some (.ref sL) else if y = "due" then some (.ref due) else u y) →
      News h₀ L h ((sL, PySem.W.listOf #[.ref S0.sl, .ref S1.sl, .ref S2.sl] nl) :: (due, PySem.W.listOf #[.int u0 v0, .int u1 v1, .int u2 v2] nd) :: (S0.eye w d u0 thr0 rec0 q0 q1 q2 ++ (S1.eye w d u1 thr1 rec1 q3 q4 q5 ++ (S2.eye w d u2 thr2 rec2 q6 q7 q8 ++ Z)))) →
      Q .next { s with heap := h, toks := tk }) :
    wpAny (model prog w) (ktrTop dp un gd "law" scope L fa ccd [("datagram", dc)] outer) (pyIter (.ref r))
      (fun it s₂ => LoopAtV prog w (ktrTop dp un gd "law" scope L fa ccd [("datagram", dc)] outer) h₀ (envX "law" scope L fa ccd [("datagram", dc)]) "turn" body Q E it s₂) E s := by
  refine outer_loop (nx := vis S0 S1 S2 sL due met dc box cl nl nd nm odc (PySem.W.listOf #[.ref cl, .int 5 tb] nb) (PySem.W.listOf vs.toArray nc) (10 * d + a) (10 * d + b) (10 * d + c) v0 v1 v2 false false false Y) (room := room) (S0 := S0) (S1 := S1) (S2 := S2) (nl := nl) hbody hr' B F X N ?_ hvs hlen hdc T hap hd0 hd1 hr hr1 hE hdp hun
    ⟨Y, nd, nm, nb, tb, v0, v1, v2, tr, tt, _, _, _, 0, false, false, none, .none, false, false, ⟨g1, g2, g3, g4, g5, g6, g7, g8, g9⟩, .none, li_0 hd0 hd1 ha0 ha1 hb0 hb1 hc0 hc1, hS, own6 y1 y2 y3 y4 y5 y6, rfl⟩ ?_
  · intro q hq
    simp only [vis, List.mem_cons] at hq
    rcases hq with rfl | rfl | rfl | rfl | rfl | rfl | hq
    · exact i1
    · exact i2
    · exact i3
    · exact i4
    · exact i5
    · exact i6
    · exact it.sub q hq
  · rintro m₁ h tk nx ⟨Y, nd, nm, nb, tb, v0, v1, v2, tr, tt, u0, u1, u2, times, m0, m2, ap, apv, low, alone, hlk, hapv, hLI, hS, hoY, rfl⟩ F' N'
    obtain ⟨thr0, rec0, thr1, rec1, thr2, rec2, q0, q1, q2, q3, q4, q5, q6, q7, q8, Z, hYZ⟩ := hS.open
    have hq : (2 : Int) ^ 9 = 512 := by decide
    have h0 := hLI.h0
    have h1 := hLI.h1
    have h2 := hLI.h2
    have l0 := hLI.l0
    have l1 := hLI.l1
    have l2 := hLI.l2
    rw [hq] at h0 h1 h2
    refine hret h tk m₁ nd v0 v1 v2 u0 u1 u2 Y Z thr0 rec0 thr1 rec1 thr2 rec2 q0 q1 q2 q3 q4 q5 q6 q7 q8 (fun q => (hYZ q).mp) (fun q hq => ⟨hoY q hq sL (.head _), hoY q hq due (.tail _ (.head _))⟩) hap.1.1.ne (by omega) (by omega) (by omega) (by omega) (by omega) (by omega) ?_ ?_
    · rw [name2 hlk.h1 hlk.h2]; exact F'
    · intro q hq
      rcases List.mem_cons.mp hq with rfl | hq
      · exact N' _ (.head _)
      rcases List.mem_cons.mp hq with rfl | hq
      · exact N' _ (.tail _ (.head _))
      · exact N' _ (.tail _ (.tail _ (.tail _ (.tail _ (.tail _ (.tail _ ((hYZ q).mp hq)))))))
end

/- Main -/
section
theorem lt_take {α : Type} {ns : List α} {f : α → α} : (List.map f (List.take 14 ns)).length < 2 ^ 30 := by
  rw [List.length_map]
  exact Nat.lt_of_le_of_lt (List.length_take_le _ _) (by decide)
theorem off_at {Y l : List (Addr × Obj)} {a : Addr} {o : Obj} (h : ∀ q ∈ Y, ∀ r ∈ l, q.1 ≠ r.1) (m : (a, o) ∈ l) : ∀ q ∈ Y, q.1 ≠ a := fun q hq => h q hq (a, o) m
local macro_rules | `(tactic| k_qdec) => `(tactic| decide +kernel)
local macro_rules | `(tactic| k_ne) => `(tactic| ((try dsimp only); first | exact Aps.get (by with_reducible assumption) (by k_memK) | exact Aps.gets (by with_reducible assumption) (by k_memK) | exact Apart.ne (by with_reducible assumption) | exact Apart.en (by with_reducible assumption) | fail "k_ne"))
local macro_rules | `(tactic| kd_adr) => `(tactic| first | exact Tl.here | (refine' Tl.tail ?a; (case a => kd_adr)))
local macro_rules | `(tactic| walk_at "call ref") => `(tactic| (k_here; (with_reducible show wpAny _ _ (call (Value.ref 236) [Value.ref _, Value.int _ _]) _ _ _); k_dflt (refine' take_use ?B ?F ?X ?N ?T ?hk ?P1 ?P2 ?off ?ne ?hi ?len ?a0 ?a1 ?m0 ?m1 ?dp ?un ?_; (case B | F | X | N | T => k_asm); (case hk => exact rfl); (case P1 | P2 => kd_in); (case off => k_all); (case ne => k_ne); (case hi => assumption); (case len => exact lt_take); (case a0 | a1 | m0 | m1 => omega); (case dp => ktr_room); (case un => ktr_units); k_whole); intro r' t' t2' nb' h' tk' r0' r1' F' N'; (try dsimp only); (try k_sweep)))
local macro_rules | `(tactic| walk_at "exec Assign cons Tuple") => `(tactic| (k_here; (with_reducible show wpAny _ _ (exec (Stmt.Assign [Expr.Tuple [Expr.Name (Str.ofString "senders") _, _] _ _] _ _) _) _ _ _); k_dflt (refine' s6_use ?hst ?B ?F ?hg ?X ?N ?P ?hdc ?T ?d0 ?d1 ?a0 ?a1 ?b0 ?b1 ?c0 ?c1 ?dp ?un ?_; (case hst => exact rfl); (case B | F => k_asm); (case hg => exact rfl); (case X | N | T => k_asm); (case P => kd_all); (case hdc => first | rfl | assumption); (case d0 | d1 | a0 | a1 | b0 | b1 | c0 | c1 => omega); (case dp => ktr_room); (case un => ktr_units); k_whole); intro h' tk' S0' S1' S2' Y' sL' dL' z0' z1' z2' hS' oY' oS' oD' oSD' oYS' oYD' F' N'; simp only [List.map_cons, List.map_nil] at oS' oD'; (try simp only [List.cons_append, List.nil_append] at N'); (try dsimp only); (try k_sweep)))
local macro_rules | `(tactic| walk_at "exec For Name Call cons nil") => `(tactic| (k_here; (rename Fr _ _ _ _ => lF'); (with_unfolding_all refine' For_invVF lF' ?k1 ?k2 ?_; (case k1 | k2 => exact rfl); k_whole)))
local macro_rules | `(tactic| walk_at "pyIter ref") => `(tactic| (k_here; (with_reducible show wpAny _ _ (pyIter (Value.ref _)) (fun it s₂ => LoopAtV _ _ _ _ _ _ _ _ _ it s₂) _ _); k_dflt (refine' outer_use ?hbody ?hr ?S ?B ?F ?g1 ?g2 ?g3 ?g4 ?g5 ?g6 ?g7 ?g8 ?g9 ?X ?N ?i1 ?i2 ?i3 ?i4 ?i5 ?i6 ?it ?vs ?len ?dc ?T ?ap ?y1 ?y2 ?y3 ?y4 ?y5 ?y6 ?d0 ?d1 ?r0 ?r1 ?a0 ?a1 ?b0 ?b1 ?c0 ?c1 ?hE ?dp ?un ?_; (case hbody => exact rfl); (case hr | S => assumption); (case B | F => k_asm); (case g1 | g2 | g3 | g4 | g5 | g6 | g7 | g8 | g9 => exact rfl); (case X | N => k_asm); (case i1 | i2 | i3 | i4 | i5 | i6 => k_mem); (case it => kd_adr); (case vs => assumption); (case len => exact lt_take); (case dc => first | rfl | assumption); (case T => k_asm); (case ap => (simp only [AllApart, Aps]; kd_subs)); (case y1 | y2 | y3 | y4 | y5 | y6 => first | assumption | (refine' off_at ?o ?z; (case o => assumption); (case z => k_mem)) | k_all); (case d0 | d1 => omega); (case r0 => exact room_lo (by omega) (by omega)); (case r1 => exact room_hi (by omega) (by omega) (by omega) (by omega)); (case a0 | a1 | b0 | b1 | c0 | c1 => omega); (case hE => passes_own); (case dp => ktr_room); (case un => ktr_units); k_whole); intro h' tk' u' nd' v0' v1' v2' u0' u1' u2' Y' Z' thr0' rec0' thr1' rec1' thr2' rec2' q0' q1' q2' q3' q4' q5' q6' q7' q8' hYZ' hoY' hne' hu0' hu0b' hu1' hu1b' hu2' hu2b' F' N'; (try dsimp only); (try k_sweep)))
local macro_rules | `(tactic| walk_at "exec Return some") => `(tactic| (k_here;  (with_reducible show wpAny _ _ (exec (Stmt.Return (some (Expr.Compare (Expr.ListComp _ _ _ _) _ _ _)) _) _) _ _ _); k_dflt ( refine' ret_use ?hst ?yz ?oY ?ne ?u0 ?u1 ?u2 ?u3 ?u4 ?u5 ?B ?F ?X ?N ?T ?dp ?un ?_; (case hst => exact rfl); (case yz | oY | ne | u0 | u1 | u2 | u3 | u4 | u5 => assumption); (case B | F | X | N | T => k_asm); (case dp => ktr_room); (case un => ktr_units); k_whole); intro h' tk' m' nw' F' N'; (try dsimp only); (try k_sweep)))
set_option maxHeartbeats 8000000 in
theorem lawp : PySem.Challenge.rw_tk0095_01.Holds := by
  refine headed (by rfl) (by rfl) (by rfl) ?_
  w_on
  k_go0
  (all_goals try k_fold)
  k_steps
  (all_goals (try k_data))
end
end
end
end Mine

theorem PySem.Challenge.cw_tk0095_01_holds : PySem.Challenge.rw_tk0095_01.Holds := by
  exact Mine.lawp
