import PyProof.Rows.All
import Wide.All
import OpenK.AllK
import Wide.FinOn
import Lean
import PySem.Challenge.RW_pq0453_01
open PySem PySem.W PySem.W.X PyProof.Rows
set_option Elab.async false
namespace Mine
section
local macro_rules | `(tactic| o_head $_t) => `(tactic| refine' (fun (_ : True) hc => hc) ?hw ?hc)
local macro_rules | `(tactic| w_witness2) => `(tactic| trivial)
set_option maxRecDepth 100000 in
set_option maxHeartbeats 8000000 in
open_top hd for PySem.Challenge.rw_pq0453_01
end
section
open PySem PySem.W PyProof.Rows

theorem spot_hi {sp c b e : Int} (h : sp < b) (hc : b + c ≤ e) : sp + c < e := Int.lt_of_lt_of_le (Int.add_lt_add_right h c) hc
theorem spot_hi0 {sp b e : Int} (h : sp < b) (hc : b ≤ e) : sp < e := Int.lt_of_lt_of_le h hc
/-- a goal bears a name, while what it stands upon is taken apart -/
theorem hide {G : Prop} (k : ∀ P : Prop, (G → P) → P) : G := k G id
theorem cnt1 {a : Int} {i : Nat} : a + ((i + 1 : Nat) : Int) = a + i + 1 := by omega
theorem le_eq {a b c d : Nat} (e : a = b) (h : b ≤ c) (hc : c ≤ d) : a ≤ d := e ▸ Nat.le_trans h hc
theorem ne_kv {x W r b : Int} (h : 2 + W ≤ x) (e : x = b) (hb : b = 2 + r) (hr : r < W) : False := by omega
theorem turn_up {a : Int} {n m : Nat} (h0 : 0 ≤ a) (e : m = n) (h : a < (m : Int)) : (0 ≤ a + 1 ∧ a + 1 ≤ (n : Int)) ∧ n - (a + 1).toNat < n - a.toNat :=
  ⟨⟨Int.add_nonneg h0 (by decide), e ▸ h⟩, by omega⟩
theorem idx63 {i m n : Nat} (h : i < m) (e : m = n) (h3 : n ≤ 4) : (i : Int) < 2 ^ 63 := by omega
theorem zbig4 {a i m n : Nat} (h : a ≤ 72 + i) (h2 : i < m) (e : m = n) (h3 : n ≤ 4) : a ≤ sizeLine := by rw [sizeLine_eq]; omega
theorem nn2 {j : Nat} : (0 : Int) ≤ 2 + j := by omega
theorem nn3 {W : Int} {i : Nat} (h : 1 ≤ W) : 0 ≤ 2 + W + i := by omega
theorem e1w {W : Int} : 2 + W = 2 + ((0 + 1 : Nat) : Int) * W := by omega
theorem w_pos {W : Int} (h : 1 ≤ W) : 0 < W := h
theorem w_ne {W : Int} (h : 1 ≤ W) : W ≠ 0 := Int.ne_of_gt h
theorem m_lo {x : Int} (h : 0 ≤ x) : 2 ≤ 2 + x := Int.le_add_of_nonneg_right h
theorem m_hi {x W : Int} (h : x < W) : 2 + x < 2 + W := Int.add_lt_add_left h 2
theorem l70 {a b c i : Nat} (h : a ≤ 70 * i + b) (e : b = c) (h2 : c ≤ 70) : a ≤ 70 * (i + 1) := by omega
theorem z1 {n j m : Nat} {W : Int} (h : (n : Int) ≤ 2 + j) (h2 : j < m) (e : (m : Int) = W) (h3 : W ≤ 70) : n ≤ 1000 := by omega
theorem z2 {n i m : Nat} {W : Int} (h : (n : Int) ≤ 2 + W + i) (h2 : i < m) (h3 : m ≤ 4) (h4 : W ≤ 70) : n ≤ 1000 := by omega
theorem big1 {a c : Nat} (h : a ≤ c) (hc : c ≤ 16384) : (a : Int) ≤ 16384 := Int.ofNat_le.mpr (Nat.le_trans h hc)
theorem big2 {a b c : Nat} (e : a = b) (h : b ≤ c) (hc : c ≤ 16384) : (a : Int) ≤ 16384 := big1 (e ▸ h) hc
theorem zbig1 {a c : Nat} (h : a ≤ c) (hc : c ≤ 16777216) : a ≤ sizeLine := by rw [sizeLine_eq]; exact Nat.le_trans h hc
theorem zbig2 {a i n c : Nat} (h : a ≤ i) (h2 : i < n) (h3 : n ≤ c) (hc : c ≤ 16777216) : a ≤ sizeLine := zbig1 (Nat.le_trans h (Nat.le_trans (Nat.le_of_lt h2) h3)) hc
theorem zbig3 {a i m n c : Nat} (h : a ≤ i) (h2 : i < m) (e : m = n) (h3 : n ≤ c) (hc : c ≤ 16777216) : a ≤ sizeLine := zbig2 h h2 (e ▸ h3) hc
theorem room0 {d K R j : Nat} (h : d + K < R) (e : Nat.ble j K = true) : d + j < R := Nat.lt_of_le_of_lt (Nat.add_le_add_left (Nat.le_of_ble_eq_true e) d) h
theorem room1 {d K R c j : Nat} (h : d + K < R) (e : Nat.ble (c + j) K = true) : d + c + j < R := Nat.add_assoc d c j ▸ room0 h e
theorem room2 {d K R c j : Nat} (h : d + 8 * K < R) (e : Nat.ble (c + 8 * j) (8 * K) = true) : d + c + 8 * j < R := Nat.add_assoc d c (8 * j) ▸ room0 h e
theorem room3 {d K R j : Nat} (h : d + K < R) (e : Nat.ble (8 * j) K = true) : d + 8 * j < R := room0 h e
theorem lt_ne_all {d : Addr} {l : List (Addr × Obj)} (h : ∀ p ∈ l, p.1 < d) : ∀ p ∈ l, p.1 ≠ d := fun p hp => Nat.ne_of_lt (h p hp)
/-- the contract of a call: what the ledger is before, what is said of the answer and of the ledger behind -/
def Con (prog : Program) (w : World) (p : Program) (loose : List Str) (mean : ExcName → Option Value) (mg mb : Str → Option Value) (k : Nat) (f : Addr) (vs : List Value) (news : List (Addr × Obj)) (Post : Value → List (Addr × Obj) → Prop) : Prop :=
  ∀ (dp un : Nat) (gd : Option (List Code)) (cn : Str) (cs : Scope) (a : Addr) (ccd : Value) (cl : List (Str × Addr)) (outer : List Env) (A₀ : Around) (base h₀ : Heap) (L : Addr) (m : Str → Option Value) (hp : Heap) (gn : Array GenState) (dr : Drawn) (st : Nat) (os : OsState) (Q E : Value → Shared → Prop),
    Below A₀ base outer h₀ → Fr h₀ L hp m → (hd.heap_39 w.params).In h₀ → News h₀ L hp news → Top p loose mean mg mb h₀ → cs.kind = .function → dp + k < recursionLimit → un + 8 * k < cLine →
    (∀ r nx h' tk', Fr h₀ L h' m → News h₀ L h' nx → Post r nx → Q r ⟨h', gn, dr, tk', os⟩) →
    wpAny (model prog w) (ktrTop dp un gd cn cs L a ccd cl outer) (call (.ref f) vs) Q E ⟨hp, gn, dr, st, os⟩

section
variable {prog : Program} {w : World} {p : Program} {loose : List Str} {mean : ExcName → Option Value} {mg mb : Str → Option Value} {news : List (Addr × Obj)}

theorem Con.use {k : Nat} {f : Addr} {vs : List Value} {Post : Value → List (Addr × Obj) → Prop} (C : Con prog w p loose mean mg mb k f vs news Post)
    {dp un : Nat} {gd : Option (List Code)} {cn : Str} {cs : Scope} {a : Addr} {ccd : Value} {cl : List (Str × Addr)} {outer : List Env} {A₀ : Around} {base h₀ : Heap} {L : Addr} {m : Str → Option Value} {hp : Heap} {gn : Array GenState} {dr : Drawn} {st : Nat} {os : OsState} {Q E : Value → Shared → Prop}
    (B : Below A₀ base outer h₀) (F : Fr h₀ L hp m) (X : (hd.heap_39 w.params).In h₀) (N : News h₀ L hp news) (T : Top p loose mean mg mb h₀) (hk : cs.kind = .function) (hd : dp + k < recursionLimit) (hu : un + 8 * k < cLine)
    (ret : ∀ r nx h' tk', Fr h₀ L h' m → News h₀ L h' nx → Post r nx → Q r ⟨h', gn, dr, tk', os⟩) :
    wpAny (model prog w) (ktrTop dp un gd cn cs L a ccd cl outer) (call (.ref f) vs) Q E ⟨hp, gn, dr, st, os⟩ := C _ _ _ _ _ _ _ _ _ _ _ _ _ _ _ _ _ _ _ _ _ B F X N T hk hd hu ret
end
/-- the same, of a call upon a list of ints that the caller holds (the script) -/
def ConL (prog : Program) (w : World) (p : Program) (loose : List Str) (mean : ExcName → Option Value) (mg mb : Str → Option Value) (k : Nat) (f : Addr) (l : Addr) (lvs : List Value) (vs : List Value) (news : List (Addr × Obj)) (Post : Value → List (Addr × Obj) → Prop) : Prop :=
  ∀ (dp un : Nat) (gd : Option (List Code)) (cn : Str) (cs : Scope) (a : Addr) (ccd : Value) (cl : List (Str × Addr)) (outer : List Env) (A₀ : Around) (base h₀ : Heap) (L : Addr) (m : Str → Option Value) (hp : Heap) (gn : Array GenState) (dr : Drawn) (st : Nat) (os : OsState) (Q E : Value → Shared → Prop),
    Below A₀ base outer h₀ → Fr h₀ L hp m → (hd.heap_39 w.params).In h₀ → News h₀ L hp news → Top p loose mean mg mb h₀ → base.IsList l lvs.toArray → cs.kind = .function → dp + k < recursionLimit → un + 8 * k < cLine →
    (∀ r nx h' tk', Fr h₀ L h' m → News h₀ L h' nx → Post r nx → Q r ⟨h', gn, dr, tk', os⟩) →
    wpAny (model prog w) (ktrTop dp un gd cn cs L a ccd cl outer) (call (.ref f) vs) Q E ⟨hp, gn, dr, st, os⟩
section
variable {prog : Program} {w : World} {p : Program} {loose : List Str} {mean : ExcName → Option Value} {mg mb : Str → Option Value} {news : List (Addr × Obj)}
theorem ConL.use {k : Nat} {f l : Addr} {lvs vs : List Value} {Post : Value → List (Addr × Obj) → Prop} (C : ConL prog w p loose mean mg mb k f l lvs vs news Post)
    {dp un : Nat} {gd : Option (List Code)} {cn : Str} {cs : Scope} {a : Addr} {ccd : Value} {cl : List (Str × Addr)} {outer : List Env} {A₀ : Around} {base h₀ : Heap} {L : Addr} {m : Str → Option Value} {hp : Heap} {gn : Array GenState} {dr : Drawn} {st : Nat} {os : OsState} {Q E : Value → Shared → Prop}
    (B : Below A₀ base outer h₀) (F : Fr h₀ L hp m) (X : (hd.heap_39 w.params).In h₀) (N : News h₀ L hp news) (T : Top p loose mean mg mb h₀) (hl : base.IsList l lvs.toArray) (hk : cs.kind = .function) (hd : dp + k < recursionLimit) (hu : un + 8 * k < cLine)
    (ret : ∀ r nx h' tk', Fr h₀ L h' m → News h₀ L h' nx → Post r nx → Q r ⟨h', gn, dr, tk', os⟩) :
    wpAny (model prog w) (ktrTop dp un gd cn cs L a ccd cl outer) (call (.ref f) vs) Q E ⟨hp, gn, dr, st, os⟩ := C _ _ _ _ _ _ _ _ _ _ _ _ _ _ _ _ _ _ _ _ _ B F X N T hl hk hd hu ret
end
section
variable {prog : Program} {w : World} {A A₀ : Around} {hp : Heap} {gn : Array GenState} {dr : Drawn} {st : Nat} {os : OsState} {K : Frag} {L : Addr} {h₀ base : Heap} {m mg mb : Str → Option Value} {news : List (Addr × Obj)} {p : Program} {loose : List Str} {mean : ExcName → Option Value}
/-- a def is entered; what the walk repeats bears a name -/
theorem code_defL {env : Env} {outer : List Env} {R : Result → Shared → Prop} {name qual : Str} {params : Arguments} {body : List Stmt} {scope : Scope} {dV kV doc pm cdv ct oc : Value} {an od : Option Addr} {osl : Array (Option Value)} {f : Addr} {args : Args} {binds : List (Str × Value)}
    (B : Below A₀ base outer h₀) (F : Fr h₀ L hp m) (X₀ : K.In h₀) (N : News h₀ L hp news) (T : Top p loose mean mg mb h₀) (hA : A.frames = some (env :: outer)) (hf : env.frame = some L) (hke : env.scope.kind = .function)
    (ho : K.lookup f = some ⟨oc, od, .func (fnOf name qual params body scope dV kV doc pm an cdv ct), osl⟩) (hcd : codeIn K cdv qual = true) (hroom : A.depth < recursionLimit)
    (hbind : BindsTo ⟨hp, gn, dr, st, os⟩ (fnOf name qual params body scope dV kV doc pm an cdv ct) args binds) (hloc : ∀ y ∈ binds, scope.names.lookup y.1 = some .local)
    (h : ∀ g L' h₁ tk, let en := envOf qual scope L' f cdv; let An := A.deeper en; let mm : Str → Option Value := fun y => binds.reverse.lookup y;
      Fr h₀ L g m → Fr g L' h₁ mm → News g L' h₁ news → Below A base (env :: outer) g → K.In g → Top p loose mean mg mb g →
      let qq : Flow → Shared → Prop := fun fl s' => LeaveK h₀ L m g R (match fl with | .ret v => v | _ => .none) s'
      let ee : Value → Shared → Prop := fun e s' => wpAny (model prog w) An (leaving en e) (fun _ s'' => R (.error e) s'') (fun e' s'' => R (.error e') s'') s'
      wpAny (model prog w) An (execs body en) qq ee ⟨h₁, gn, dr, tk, os⟩)
    (hco : scope.isCoroutine = false) (hgen : scope.isGenerator = false) (hk : scope.kind = .function)
    (hcell : ∀ x ∈ scope.names, x.2 ≠ .cell) : codeAny (model prog w) A (.call (.ref f) args) R ⟨hp, gn, dr, st, os⟩ :=
  code_def B F X₀ N T hA hf hke ho hcd hroom hbind hloc (fun g L' h₁ a b c d e f => h g L' h₁ _ a b c d e f) hco hgen hk hcell
theorem storeL {M : Model} {E : Value → Shared → Prop} {cn : Str} {cs : Scope} {a : Addr} {ccd : Value} {cl : List (Str × Addr)} {x : Str} {v : Value} {Q : Unit → Shared → Prop} (F : Fr h₀ L hp m) (N : News h₀ L hp news)
    (h : ∀ h' tk, let mm : Str → Option Value := fun y => if y = x then some v else m y; Fr h₀ L h' mm → News h₀ L h' news → Q () ⟨h', gn, dr, tk, os⟩)
    (hk : cs.kind = .function := by rfl) (hx : (envX cn cs L a ccd cl).kindOf x = some .local := by rfl) : wpAny M A (storeName (envX cn cs L a ccd cl) x v) Q E ⟨hp, gn, dr, st, os⟩ :=
  storeX_L F N (fun h' a b => h h' _ a b) hk hx
end
abbrev tupO (vs : List Value) : Obj := { cls := .type "tuple", data := .seq vs.toArray }
section
variable {prog : Program} {w : World} {A : Around} {E : Value → Shared → Prop} {hp : Heap} {gn : Array GenState} {dr : Drawn} {st : Nat} {os : OsState} {h₀ : Heap} {L : Addr} {news : List (Addr × Obj)}
theorem lenT {l : Addr} {vs : List Value} {n : Nat} {k : Int} {Q : Value → Shared → Prop} (N : News h₀ L hp news) (hm : (l, ({ cls := .type "tuple", data := .seq vs.toArray n } : Obj)) ∈ news) (hk : (vs.length : Int) = k) (hz : k ≤ 16384) (h : ∀ tk tk', Q (.int k tk) ⟨hp, gn, dr, tk', os⟩) :
    wpAny (model prog w) A (call (.builtin "len") [.ref l]) Q E ⟨hp, gn, dr, st, os⟩ := by
  subst hk
  exact len_tuple (N.isTup hm) (by simp only [List.size_toArray]; omega) (by simpa using h _ _)
theorem lenL {l : Addr} {vs : List Value} {n : Nat} {k : Int} {Q : Value → Shared → Prop} (N : News h₀ L hp news) (hm : (l, listOf vs.toArray n) ∈ news) (hk : (vs.length : Int) = k) (hz : k ≤ 16384) (h : ∀ tk tk', Q (.int k tk) ⟨hp, gn, dr, tk', os⟩) :
    wpAny (model prog w) A (call (.builtin "len") [.ref l]) Q E ⟨hp, gn, dr, st, os⟩ := by
  subst hk
  exact len_list (N.isList hm) (by simp only [List.size_toArray]; omega) (by simpa using h _ _)
theorem itemL {value slice : Expr} {l : Addr} {vs : List Value} {n : Nat} {k : Int} {u : Tok} {Q : Value → Shared → Prop} (N : News h₀ L hp news) (hm : (l, listOf vs.toArray n) ∈ news)
    (h0 : 0 ≤ k) (h1 : k < (vs.length : Int)) (hz : vs.length ≤ 16384) (h : ∀ v, vs[k.toNat]? = some v → Q v ⟨hp, gn, dr, st, os⟩)
    (hs : subscripted slice false (.ref l) (.int k u) = operate [.ref l, .int k u] (getItem (.ref l) (.int k u)) := by with_unfolding_all rfl) :
    wpAny (model prog w) A (subscriptTail value slice (.ref l) (.int k u)) Q E ⟨hp, gn, dr, st, os⟩ := by
  have hj : k.toNat < vs.length := by omega
  exact item_listR (N.isList hm) h0 (by omega) (x := vs[k.toNat]) (by simp [hj]) (h _ (List.getElem?_eq_getElem hj)) hs
theorem itemLx {value slice : Expr} {l : Addr} {vs : List Value} {n : Nat} {k : Int} {u : Tok} {v : Value} {Q : Value → Shared → Prop} (N : News h₀ L hp news) (hm : (l, listOf vs.toArray n) ∈ news)
    (h0 : 0 ≤ k) (h1 : k < 2 ^ 63) (hx : vs[k.toNat]? = some v) (h : Q v ⟨hp, gn, dr, st, os⟩)
    (hs : subscripted slice false (.ref l) (.int k u) = operate [.ref l, .int k u] (getItem (.ref l) (.int k u)) := by with_unfolding_all rfl) :
    wpAny (model prog w) A (subscriptTail value slice (.ref l) (.int k u)) Q E ⟨hp, gn, dr, st, os⟩ :=
  item_listR (N.isList hm) h0 h1 (by simpa using hx) h hs
theorem itemT {value slice : Expr} {l : Addr} {vs : List Value} {n : Nat} {k : Int} {u : Tok} {v : Value} {Q : Value → Shared → Prop} (N : News h₀ L hp news) (hm : (l, ({ cls := .type "tuple", data := .seq vs.toArray n } : Obj)) ∈ news)
    (hlo : 0 ≤ k) (hhi : k < 2 ^ 63) (hx : vs[k.toNat]? = some v) (h : Q v ⟨hp, gn, dr, st, os⟩)
    (hs : subscripted slice false (.ref l) (.int k u) = operate [.ref l, .int k u] (getItem (.ref l) (.int k u)) := by with_unfolding_all rfl) :
    wpAny (model prog w) A (subscriptTail value slice (.ref l) (.int k u)) Q E ⟨hp, gn, dr, st, os⟩ := by
  have hj : k.toNat < vs.length := (List.getElem?_eq_some_iff.mp hx).1
  exact item_tupleT (N.isTup hm) (by omega) hhi (j := k.toNat) (by unfold seqIndex?; simp only [List.size_toArray]; split <;> simp_all <;> omega) (by simpa using hx) h hs
end

end
local macro_rules | `(tactic| k_mem) => `(tactic| first | assumption | exact List.mem_cons_self | (refine' List.mem_cons_of_mem _ ?_; k_mem) | (refine' List.mem_append_right _ ?_; k_mem))
local macro_rules | `(tactic| walk_at $s:str) => `(tactic| k_extra $s)
local macro_rules | `(tactic| k_room) => `(tactic| first | exact room0 (j := 1) (by assumption) (by decide) | exact room0 (j := 2) (by assumption) (by decide) | exact room0 (j := 3) (by assumption) (by decide) | ktr_room)
local macro_rules | `(tactic| k_all) => `(tactic| first | assumption | exact lt_ne_all (by assumption) | exact lt_ne_all (ktn_ltOf (by assumption)) | (refine List.forall_mem_append.mpr ⟨?_, ?_⟩ <;> k_all))
local macro_rules | `(tactic| k_ne) => `(tactic| (refine neN ?_; (try dsimp only); first | assumption | exact Ne.symm (by assumption) | exact Nat.ne_of_lt (by assumption) | exact Nat.ne_of_gt (by assumption)))
section
open PySem PySem.W PyProof.Rows PySem.Calls PyProof.V
/-- the walk stops here -/
structure Stop (P : Prop) : Prop where
  out : P
section
variable {prog : Program} {w : World} {A : Around} {E : Value → Shared → Prop} {hp : Heap} {gn : Array GenState} {dr : Drawn} {st : Nat} {os : OsState} {env : Env} {h₀ : Heap} {x : Str} {body : List Stmt} {Q : Flow → Shared → Prop}

/-- the end of a turn: what changes stands first in the ledger, all else as it stood -/
def TurnEnd (h₀ : Heap) (L : Addr) (I : List (Addr × Obj) → Prop) (R : List (Addr × Obj)) (own : List (Addr × Obj)) (stored : List Str) (m₀ : Str → Option Value) (x : Str) (gn : Array GenState) (dr : Drawn) (os : OsState) (Q : Flow → Shared → Prop) (f : Flow) (s₂ : Shared) : Prop :=
  match f with
  | .ret v => Q (.ret v) s₂
  | .brk => Q .next s₂
  | _ => ∃ h' tk m' mu, s₂ = ⟨h', gn, dr, tk, os⟩ ∧ Fr h₀ L h' m' ∧ News h₀ L h' (mu ++ R) ∧ OwnOff own (mu.map (·.1)) ∧ I mu ∧ ∀ y, y ≠ x → stored.contains y = false → m' y = m₀ y
theorem TurnEnd.to {L : Addr} {I : List (Addr × Obj) → Prop} {R own : List (Addr × Obj)} {stored : List Str} {m₀ : Str → Option Value} {gn : Array GenState} {dr : Drawn} {os : OsState} {h' : Heap} {tk : Nat} {m' : Str → Option Value} (mu : List (Addr × Obj)) (F : Fr h₀ L h' m') (N : News h₀ L h' (mu ++ R)) (ho : OwnOff own (mu.map (·.1))) (hI : I mu)
    (hm : ∀ y, y ≠ x → stored.contains y = false → m' y = m₀ y) : TurnEnd h₀ L I R own stored m₀ x gn dr os Q .next ⟨h', gn, dr, tk, os⟩ := ⟨h', tk, m', mu, rfl, F, N, ho, hI, hm⟩
theorem TurnEnd.toC {L : Addr} {I : List (Addr × Obj) → Prop} {R own : List (Addr × Obj)} {stored : List Str} {m₀ : Str → Option Value} {gn : Array GenState} {dr : Drawn} {os : OsState} {h' : Heap} {tk : Nat} {m' : Str → Option Value} (mu : List (Addr × Obj)) (F : Fr h₀ L h' m') (N : News h₀ L h' (mu ++ R)) (ho : OwnOff own (mu.map (·.1))) (hI : I mu)
    (hm : ∀ y, y ≠ x → stored.contains y = false → m' y = m₀ y) : TurnEnd h₀ L I R own stored m₀ x gn dr os Q .cont ⟨h', gn, dr, tk, os⟩ := ⟨h', tk, m', mu, rfl, F, N, ho, hI, hm⟩
/-- what a turn must bring bears a name -/
theorem genT {α : Type} {M : Model} {t : Sem α} {TE : α → Shared → Prop} {s : Shared} (h : ∀ QQ : α → Shared → Prop, (∀ f s, TE f s → QQ f s) → wpAny M A t QQ E s) : wpAny M A t TE E s := h TE fun _ _ x => x
theorem genA {α β : Type} {M : Model} {t : Sem α} {u : Sem β} {TE : β → Shared → Prop} {s : Shared} (h : ∀ QQ : β → Shared → Prop, (∀ f s, TE f s → QQ f s) → wpAny M A t (fun _ s₂ => wpAny M A u QQ E s₂) E s) : wpAny M A t (fun _ s₂ => wpAny M A u TE E s₂) E s := h TE fun _ _ x => x
section
variable {L : Addr} {I : List (Addr × Obj) → Prop} {R own : List (Addr × Obj)} {stored : List Str} {m₀ : Str → Option Value} {h' : Heap} {tk : Nat} {m' : Str → Option Value} {QQ : Flow → Shared → Prop} (hQ : ∀ f s, TurnEnd h₀ L I R own stored m₀ x gn dr os Q f s → QQ f s)
include hQ
theorem TE.to (mu : List (Addr × Obj)) (F : Fr h₀ L h' m') (N : News h₀ L h' (mu ++ R)) (ho : OwnOff own (mu.map (·.1))) (hI : I mu) (hm : ∀ y, y ≠ x → stored.contains y = false → m' y = m₀ y) : QQ .next ⟨h', gn, dr, tk, os⟩ := hQ _ _ (TurnEnd.to mu F N ho hI hm)
theorem TE.toC (mu : List (Addr × Obj)) (F : Fr h₀ L h' m') (N : News h₀ L h' (mu ++ R)) (ho : OwnOff own (mu.map (·.1))) (hI : I mu) (hm : ∀ y, y ≠ x → stored.contains y = false → m' y = m₀ y) : QQ .cont ⟨h', gn, dr, tk, os⟩ := hQ _ _ (TurnEnd.toC mu F N ho hI hm)
end
theorem frame_w {x z : Str} {v v₁ v₂ : Value} {u m₀ : Str → Option Value} (h : ∀ p ∈ [(x, v₁)], z ≠ p.1) : (fun y => if y = x then some v else kstB (fun z => if ([] : List Str).contains z then u z else m₀ z) [(x, v₂)] y) z = m₀ z := by
  have h3 : z ≠ x := h _ List.mem_cons_self
  simp [kstB, h3]
theorem frame_w2 {x y z : Str} {v v₁ v₂ : Value} {u u' m₀ : Str → Option Value} (h : ∀ p ∈ [(x, v₁)], z ≠ p.1) (h2 : [y].contains z = false) :
    (fun a => if a = x then some v else if a = y then u' a else if ([] : List Str).contains a then u' a else kstB (fun z => if [y].contains z then u z else m₀ z) [(x, v₂)] a) z = m₀ z := by
  have h3 : z ≠ x := h _ List.mem_cons_self
  have h4 : z ≠ y := fun e => by rw [e] at h2; simp at h2
  simp [kstB, h3, h4]
theorem news_swap {h₀ h : Heap} {L : Addr} {a b : Addr × Obj} {r : List (Addr × Obj)} (N : News h₀ L h (a :: b :: r)) : News h₀ L h (b :: a :: r) := fun p hp => N p (by
  simp only [List.mem_cons] at hp ⊢
  rcases hp with h | h | h <;> simp [h])
theorem off1 {I a : Addr} {it o : Obj} (h : a < I) : OwnOff [(I, it)] ([(a, o)].map (·.1)) := by
  intro p hp b hb
  rw [List.mem_singleton.mp hp, List.mem_singleton.mp hb]
  exact Nat.ne_of_gt h
theorem fr_step {stored : List Str} {a x : Str} {v : Option Value} {m' m₀ : Str → Option Value} (ha : stored.contains a = true) (h : ∀ y, y ≠ x → stored.contains y = false → m' y = m₀ y) :
    ∀ y, y ≠ x → stored.contains y = false → (fun y => if y = a then v else m' y) y = m₀ y := by
  intro y h1 h2
  have h3 : y ≠ a := fun e => by rw [e, ha] at h2; cases h2
  show (if y = a then v else m' y) = m₀ y
  rw [if_neg h3]
  exact h y h1 h2
theorem fr_base {stored : List Str} {x : Str} {v : Option Value} {u m₀ : Str → Option Value} :
    ∀ y, y ≠ x → stored.contains y = false → (fun y => if y = x then v else if stored.contains y then u y else m₀ y) y = m₀ y := by
  intro y h1 h2
  show (if y = x then v else if stored.contains y then u y else m₀ y) = m₀ y
  rw [if_neg h1, h2]
  rfl
theorem fr_base0 {stored : List Str} {x : Str} {u m₀ : Str → Option Value} :
    ∀ y, y ≠ x → stored.contains y = false → (fun y => if stored.contains y then u y else m₀ y) y = m₀ y := by
  intro y _ h2
  show (if stored.contains y then u y else m₀ y) = m₀ y
  rw [h2]
  rfl
theorem fr_sub {stored s' : List Str} {x : Str} {u m' m₀ : Str → Option Value} (hs : s'.all (fun y => stored.contains y) = true) (h : ∀ y, y ≠ x → stored.contains y = false → m' y = m₀ y) :
    ∀ y, y ≠ x → stored.contains y = false → (fun y => if s'.contains y then u y else m' y) y = m₀ y := by
  intro y h1 h2
  show (if s'.contains y then u y else m' y) = m₀ y
  have h3 : s'.contains y = false := by
    cases e : s'.contains y with
    | false => rfl
    | true => rw [List.all_eq_true.mp hs y (List.contains_iff_mem.mp e)] at h2; cases h2
  rw [h3]
  exact h y h1 h2
theorem mem_a {p : Addr × Obj} {mu own G : List (Addr × Obj)} (h : p ∈ mu ++ (own ++ G)) : p ∈ (mu ++ G) ++ own := by
  simp only [List.mem_append] at h ⊢
  rcases h with h | h | h <;> simp [h]
theorem mem_b {p : Addr × Obj} {mu own G : List (Addr × Obj)} (h : p ∈ mu ++ G) : p ∈ mu ++ (own ++ G) := by
  simp only [List.mem_append] at h ⊢
  rcases h with h | h <;> simp [h]
theorem mem_c {p : Addr × Obj} {mu own G : List (Addr × Obj)} (h : p ∈ own) : p ∈ mu ++ (own ++ G) := by
  simp only [List.mem_append] at h ⊢
  simp [h]
theorem map_split {m m₀ : Str → Option Value} {stored : List Str} {x : Str} {v : Option Value} (h : ∀ y, y ≠ x → stored.contains y = false → m y = m₀ y) :
    (fun y => if y = x then v else m y) = fun y => if y = x then v else if stored.contains y then m y else m₀ y := by
  funext y
  by_cases h1 : y = x
  · simp [h1]
  · simp only [if_neg h1]
    cases h2 : stored.contains y with
    | true => rfl
    | false => simpa using h y h1 h2
theorem map_split' {m m₀ : Str → Option Value} {stored : List Str} {x : Str} (h : ∀ y, y ≠ x → stored.contains y = false → m y = m₀ y) :
    m = fun y => if y = x then m y else if stored.contains y then m y else m₀ y := by
  funext y
  by_cases h1 : y = x
  · simp [h1]
  · simp only [if_neg h1]
    cases h2 : stored.contains y with
    | true => rfl
    | false => simpa using h y h1 h2

theorem mem_sw {α : Type} {p : α} {a b c : List α} (h : p ∈ a ++ (b ++ c)) : p ∈ b ++ (a ++ c) :=
  (List.mem_append.mp h).elim (fun h => List.mem_append_right _ (List.mem_append_left _ h)) fun h => (List.mem_append.mp h).elim (fun h => List.mem_append_left _ h) fun h => List.mem_append_right _ (List.mem_append_right _ h)
theorem small_k {n : Nat} (h : n ≤ 1000) : Builtin.Range.small 0 (n : Int) 1 = true := small_one (by omega) (by omega) (by omega) (by omega)
theorem one_i {i : Nat} : (0 : Int) + (i : Int) * 1 = (i : Int) := by rw [Int.mul_one, Int.zero_add]
theorem loopL {l : Addr} {vs : List Value} {nn : Nat} {m₀ : Str → Option Value} {mu₀ G : List (Addr × Obj)} (stored : List Str) (I : Nat → List (Addr × Obj) → Prop)
    (hh : A.handled = none) (hl : (l, listOf vs.toArray nn) ∈ G) (F : Fr h₀ env.locals hp m₀) (N : News h₀ env.locals hp (mu₀ ++ G)) (h0 : I 0 mu₀)
    (turn : ∀ i v (u : Str → Option Value) mu h tk own, vs[i]? = some v → OwnOff own ((mu ++ G).map (·.1)) → I i mu → Fr h₀ env.locals h (fun y => if y = x then some v else if stored.contains y then u y else m₀ y) → News h₀ env.locals h (mu ++ (own ++ G)) →
      wpAny (model prog w) A (execs body env) (TurnEnd h₀ env.locals (I (i + 1)) (own ++ G) own stored m₀ x gn dr os Q) E ⟨h, gn, dr, tk, os⟩)
    (done : ∀ (u : Str → Option Value) mu h tk, I vs.length mu → Fr h₀ env.locals h (fun y => if y = x then u y else if stored.contains y then u y else m₀ y) → News h₀ env.locals h (mu ++ G) → Q .next ⟨h, gn, dr, tk, os⟩) :
    wpAny (model prog w) A (pyIter (.ref l)) (fun it s₂ => LoopAtV prog w A h₀ env x body Q E it s₂) E ⟨hp, gn, dr, st, os⟩ := by
  refine kdl_iter (fun i m nx => ∃ mu, nx = mu ++ G ∧ I i mu ∧ ∀ y, y ≠ x → stored.contains y = false → m y = m₀ y) hh (List.mem_append_right _ hl) F N ⟨mu₀, rfl, h0, fun _ _ _ => rfl⟩ ?_ ?_
  · rintro i v m₁ nx h tk own hv hoff _ ⟨mu, rfl, hI, hm⟩ F₁ N₁
    rw [map_split hm] at F₁
    have N₂ : News h₀ env.locals h (mu ++ (own ++ G)) := fun p hp => N₁ p (mem_a hp)
    refine wpAny_mono (turn i v m₁ mu h tk own hv hoff hI F₁ N₂) (fun f s₂ q => ?_) fun _ _ e => e
    have up : TurnEnd h₀ env.locals (I (i + 1)) (own ++ G) own stored m₀ x gn dr os Q .next s₂ → InvEndG h₀ env.locals (fun m' nx => (l, listOf vs.toArray nn) ∈ nx ∧ ∃ mu, nx = mu ++ G ∧ I (i + 1) mu ∧ ∀ y, y ≠ x → stored.contains y = false → m' y = m₀ y) own ⟨h, gn, dr, tk, os⟩ s₂ := by
      rintro ⟨h', tk', m', mu', e, F', N', ho, hI', hm'⟩
      refine ⟨h', tk', m', _, mu' ++ G, e, F', N', ?_, ?_, ?_, List.mem_append_right _ hl, mu', rfl, hI', hm'⟩
      · exact fun p hp => mem_b hp
      · exact fun p hp => mem_c hp
      · intro p hp b hb
        rw [List.map_append] at hb
        rcases List.mem_append.mp hb with hb | hb
        · exact ho p hp b hb
        · exact hoff p hp b (by rw [List.map_append]; exact List.mem_append_right _ hb)
    cases f with
    | ret v => exact q
    | brk => exact q
    | next => exact up q
    | cont => exact up q
  · rintro m₁ nx h tk ⟨mu, rfl, hI, hm⟩ F₁ N₁
    exact done m₁ mu h tk hI (by rw [← map_split' hm]; exact F₁) N₁

/-- a loop over a range; the turn also knows of what class the iterator is -/
theorem loopRC {r : Addr} {b₀ : Int} {t₀ u₀ v₀ : Tok} {n : Nat} {m₀ : Str → Option Value} {mu₀ G : List (Addr × Obj)} (stored : List Str) (I : Nat → List (Addr × Obj) → Prop)
    (hh : A.handled = none) (hr : IsRange hp r 0 b₀ 1 t₀ u₀ v₀) (hb : b₀ = (n : Int)) (hz : n ≤ 1000) (F : Fr h₀ env.locals hp m₀) (N : News h₀ env.locals hp (mu₀ ++ G)) (h0 : I 0 mu₀)
    (turn : ∀ (i : Nat) t (u : Str → Option Value) mu h tk own, i < n → OwnOff own ((mu ++ G).map (·.1)) → (∀ p ∈ own, p.2.cls = .type "range_iterator") → I i mu → Fr h₀ env.locals h (fun y => if y = x then some (.int (i : Int) t) else if stored.contains y then u y else m₀ y) → News h₀ env.locals h (mu ++ (own ++ G)) →
      wpAny (model prog w) A (execs body env) (TurnEnd h₀ env.locals (I (i + 1)) (own ++ G) own stored m₀ x gn dr os Q) E ⟨h, gn, dr, tk, os⟩)
    (done : ∀ (u : Str → Option Value) mu h tk, I n mu → Fr h₀ env.locals h (fun y => if y = x then u y else if stored.contains y then u y else m₀ y) → News h₀ env.locals h (mu ++ G) → Q .next ⟨h, gn, dr, tk, os⟩) :
    wpAny (model prog w) A (pyIter (.ref r)) (fun it s₂ => LoopAtV prog w A h₀ env x body Q E it s₂) E ⟨hp, gn, dr, st, os⟩ := by
  subst hb
  have hsz : Builtin.Range.rangeSize 0 (n : Int) 1 = (n : Int) := by simpa using rangeSize_nat 0 n
  refine wpAny_pyIter_range hr (small_k hz) ?_
  have W : Walks prog w A hp.objs.size [hp.objs.size] [hp.objs.size] n (fun i v => i < n ∧ ∃ t, v = .int (0 + i * 1) t)
      (fun i h => IsRangeIter h hp.objs.size (0 + (i : Nat) * 1) ((n : Int) - (i : Nat)) 1) := (Walks.range hh _ 0 1 n).bound
  have new : ∀ b ∈ [hp.objs.size], h₀.get? b = none := fun b hb => by rw [List.mem_singleton.mp hb]; exact next_is_new F
  refine ⟨_, [hp.objs.size], [hp.objs.size], n, _, _, m₀, mu₀ ++ G, fun i m nx => ∃ mu, nx = mu ++ G ∧ I i mu ∧ ∀ y, y ≠ x → stored.contains y = false → m y = m₀ y, rfl, W, fun hm => absurd F.ns.lt ((List.mem_singleton.mp hm) ▸ Nat.lt_irrefl _), new,
    fun p hp hI => absurd (Heap.lt_size (N p hp).1) ((List.mem_singleton.mp hI) ▸ Nat.lt_irrefl _), by show IsRangeIter _ _ _ _ _; rw [hsz]; simpa using Heap.get?_push_size _ rfl, F.push _, fun p hp => ⟨Heap.get?_push_of_some _ (N p hp).1, (N p hp).2⟩, ⟨mu₀, rfl, h0, fun _ _ _ => rfl⟩, ?_, ?_⟩
  · rintro i v m₁ nx s₁ own ⟨h, tk, rfl⟩ hi ⟨_, t, rfl⟩ ⟨mu, rfl, hI, hm⟩ hoff hown hget hmem hst F₁ N₁
    rw [one_i, map_split hm] at F₁
    have ho : OwnOff own ((mu ++ G).map (·.1)) := by
      intro p hp b hb e
      obtain ⟨q, hq, rfl⟩ := List.mem_map.mp hb
      exact hoff q hq (e ▸ hown p hp)
    have hcl : ∀ p ∈ own, p.2.cls = .type "range_iterator" := by
      intro p hp
      have h1 := hget p hp
      rw [List.mem_singleton.mp (hown p hp)] at h1
      exact congrArg (fun o => (o.getD default).cls) (h1.symm.trans hst)
    have N₂ : News h₀ env.locals h (mu ++ (own ++ G)) := fun p hp => N₁ p (mem_sw hp)
    refine wpAny_mono (turn i t m₁ mu h tk own hi ho hcl hI F₁ N₂) (fun f s₂ q => ?_) fun _ _ e => e
    have up : TurnEnd h₀ env.locals (I (i + 1)) (own ++ G) own stored m₀ x gn dr os Q .next s₂ → LoopStepU h₀ env.locals [hp.objs.size] own (fun m nx => ∃ mu, nx = mu ++ G ∧ I (i + 1) mu ∧ ∀ y, y ≠ x → stored.contains y = false → m y = m₀ y) ⟨h, gn, dr, tk, os⟩ .next s₂ := by
      rintro ⟨h', tk', m', mu', e, F', N', ho', hI', hm'⟩
      refine ⟨rfl, h', tk', m', mu' ++ G, e, F', fun p hp => N' p (mem_sw hp), fun p hm2 hq => ?_, mu', rfl, hI', hm'⟩
      have hin : (hp.objs.size, _) ∈ own := hmem _ (List.mem_singleton.mpr rfl) (new _ (List.mem_singleton.mpr rfl)) _ hst
      rcases List.mem_append.mp hm2 with hm2 | hm2
      · exact ho' _ hin p.1 (List.mem_map_of_mem hm2) (List.mem_singleton.mp hq).symm
      · exact hoff p (List.mem_append_right _ hm2) hq
    cases f with
    | ret v => exact .ret q
    | brk => exact .brk q
    | next => exact .next (up q)
    | cont => exact .cont (up q)
  · rintro h tk m₁ nx F₁ N₁ _ ⟨mu, rfl, hI, hm⟩
    exact done m₁ mu h tk hI (by rw [← map_split' hm]; exact F₁) N₁
theorem loopR {r : Addr} {b₀ : Int} {t₀ u₀ v₀ : Tok} {n : Nat} {m₀ : Str → Option Value} {mu₀ G : List (Addr × Obj)} (stored : List Str) (I : Nat → List (Addr × Obj) → Prop)
    (hh : A.handled = none) (hr : IsRange hp r 0 b₀ 1 t₀ u₀ v₀) (hb : b₀ = (n : Int)) (hz : n ≤ 1000) (F : Fr h₀ env.locals hp m₀) (N : News h₀ env.locals hp (mu₀ ++ G)) (h0 : I 0 mu₀)
    (turn : ∀ (i : Nat) t (u : Str → Option Value) mu h tk own, i < n → OwnOff own ((mu ++ G).map (·.1)) → I i mu → Fr h₀ env.locals h (fun y => if y = x then some (.int (i : Int) t) else if stored.contains y then u y else m₀ y) → News h₀ env.locals h (mu ++ (own ++ G)) →
      wpAny (model prog w) A (execs body env) (TurnEnd h₀ env.locals (I (i + 1)) (own ++ G) own stored m₀ x gn dr os Q) E ⟨h, gn, dr, tk, os⟩)
    (done : ∀ (u : Str → Option Value) mu h tk, I n mu → Fr h₀ env.locals h (fun y => if y = x then u y else if stored.contains y then u y else m₀ y) → News h₀ env.locals h (mu ++ G) → Q .next ⟨h, gn, dr, tk, os⟩) :
    wpAny (model prog w) A (pyIter (.ref r)) (fun it s₂ => LoopAtV prog w A h₀ env x body Q E it s₂) E ⟨hp, gn, dr, st, os⟩ :=
  loopRC stored I hh hr hb hz F N h0 (fun i t u mu h tk own a b _ => turn i t u mu h tk own a b) done
end
section
variable {prog : Program} {w : World} {A : Around} {E : Value → Shared → Prop} {hp : Heap} {gn : Array GenState} {dr : Drawn} {st : Nat} {os : OsState} {h₀ : Heap} {L : Addr} {m : Str → Option Value}
theorem rangeR {Q : Value → Shared → Prop} {n : Int} {t : Tok} {news : List (Addr × Obj)} (F : Fr h₀ L hp m) (N : News h₀ L hp news)
    (h : ∀ r h' tk t₁ u₁ v₁, IsRange h' r 0 n 1 t₁ u₁ v₁ → Fr h₀ L h' m → News h₀ L h' news → Q (.ref r) ⟨h', gn, dr, tk, os⟩) : wpAny (model prog w) A (call (.type "range") [.int n t]) Q E ⟨hp, gn, dr, st, os⟩ :=
  range1_rows F N fun h' tk t₁ u₁ v₁ a b c _ => h _ h' tk t₁ u₁ v₁ a b c
theorem append_mu {l : Addr} {vs : List Value} {n : Nat} {v : Value} {news rest : List (Addr × Obj)} {Q : Value → Shared → Prop} (F : Fr h₀ L hp m) (N : News h₀ L hp news) (hs : ∀ p ∈ (l, listOf vs.toArray n) :: rest, p ∈ news) (hne : ∀ p ∈ rest, p.1 ≠ l) (hz : vs.length ≤ 100000)
    (h : ∀ h', Fr h₀ L h' m → News h₀ L h' ((l, listOf (vs ++ [v]).toArray (n + 1)) :: rest) → Q .none ⟨h', gn, dr, st, os⟩) :
    wpAny (model prog w) A (call (.builtin "list.append") [.ref l, v]) Q E ⟨hp, gn, dr, st, os⟩ :=
  append_K F (fun p hp => N p (hs p hp)) (.head hne) (fun h' F' N' => h h' F' (by simpa using N')) (by rw [sizeLine_eq]; simp only [List.size_toArray]; omega)
end

end
section
open PySem PySem.W PyProof.Rows
section
variable {prog : Program} {w : World} {p : Program} {loose : List Str} {mean : ExcName → Option Value} {mg mb : Str → Option Value} {news : List (Addr × Obj)}
def isTab : Dat → Int → Bool
  | .int i, wd => decide (0 ≤ i) && decide ((PySem.Builtin.Int.intBits i : Int) ≤ 2 ^ wd.toNat)
  | _, _ => false
inductive TabV (news : List (Addr × Obj)) : Value → Dat → Prop
  | none : TabV news .none .none
  | int (i : Int) (t : Tok) : TabV news (.int i t) (.int i)
  | str (x : Str) (t : Tok) : TabV news (.str x t) (.str x)
  | ref (a : Addr) (vs : List Value) (ds : List Dat) : (a, tupO vs) ∈ news → TabV news (.ref a) (.tuple ds)
set_option maxRecDepth 100000 in
set_option maxHeartbeats 8000000 in
theorem tab_con (v : Value) (d : Dat) (wt : Tok) (wd : Int) (h0 : 0 ≤ wd) (h1 : wd ≤ 70) (hv : TabV news v d) : Con prog w p loose mean mg mb 2 173 [v, .int wd wt] news (fun r nx => nx = news ∧ r = .bool (isTab d wd)) := by
  w_top off; (have hfill : PySem.Challenge.rw_pq0453_01 = PySem.Challenge.rw_pq0453_01 ∧ hd.heap_39 = hd.heap_39 := (by k_fill; exact ⟨rfl, rfl⟩)); clear hfill
  (unfold Con; intro dp un gd cn cs a ccd cl outer A₀ base h₀ L m sheap sgens sdrawn stoks sos Q E B F X N T hk hdp hun hret; refine wpAny_call ?_; k_dflt (refine' code_defL ?k1 ?k2 ?k3 ?k4 ?k5 ?kA ?kF ?kK ?k6 ?k7 ?k8 ?k9 ?kB ?_ ?c2 ?c3 ?c4 ?c5; (case kA => exact rfl); (case kF => exact rfl); (case kK => assumption); (case k1 => k_asm); (case k2 => k_asm); (case k3 => k_asm); (case k4 => k_asm); (case k5 => k_asm); (case k6 => k_is); (case k7 => k_is); (case k8 => first | exact Nat.lt_of_le_of_lt (Nat.le_add_right _ _) hdp | ktr_room); (case k9 => exact BindsTo.of_eq rfl); (case c5 => decide); (case kB => exact locs rfl); (case c2 => exact rfl); (case c3 => exact rfl); (case c4 => exact rfl); k_whole; intro g' L' h' tk' en' An' mm' FG' F' N' B' X' T' qq' ee'; (try dsimp only); (try k_lift B')))
  cases hv
  all_goals k_steps
  all_goals (refine hret _ _ _ _ (by k_asm) (by k_asm) ?_)
  all_goals (refine ⟨rfl, ?_⟩)
  all_goals clear hret F N B
  all_goals (first | rfl | (simp_all [isTab]; done) | (simp_all [isTab]; intros; omega))
end

end
section
open PySem PySem.W PyProof.Rows
def bit01 (e : Int) : Bool := 0 == e || 1 == e
def intBit : Dat → Bool
  | .int b => bit01 b
  | _ => false
def fits2 (kind : Str) (wd : Int) (e : Dat) : Bool := if kind = "cell" then isTab e wd else if kind = "latch" then intBit e else false
def fitsT (kind : Str) (wd : Int) : List Dat → Bool
  | [] => false
  | [_] => false
  | [_, e] => fits2 kind wd e
  | [d, _, e] => decide (kind = "flop") && (intBit d && intBit e)
  | _ :: _ :: _ :: _ :: _ => false
def fitsD (kind : Str) (wd : Int) (pd : Dat) : Bool :=
  if kind = "lut" then isTab pd wd else match pd with
  | .none => !(("cell" : Str) == kind || (("flop" : Str) == kind || ("latch" : Str) == kind))
  | .tuple ds => fitsT kind wd ds
  | _ => false
theorem any01 (e : Int) : [0, 1].any (fun x => x == e) = bit01 e := by
  simp [bit01]
theorem fd_none {kind : Str} {wd : Int} (h : kind ≠ "lut") : (![(Str.ofString "cell"), Str.ofString "flop", Str.ofString "latch"].any fun x => x == kind) = fitsD kind wd .none := by
  unfold fitsD
  rw [if_neg h]
  simp only [List.any_cons, List.any_nil, Bool.or_false]
theorem fd_tup {kind : Str} {wd : Int} {ds : List Dat} (h : kind ≠ "lut") : fitsD kind wd (.tuple ds) = fitsT kind wd ds := by
  unfold fitsD
  rw [if_neg h]
theorem fd_few {kind : Str} {wd : Int} {ds : List Dat} (h : kind ≠ "lut") (h2 : ds.length ≠ 2) (h3 : ds.length ≠ 3) : fitsD kind wd (.tuple ds) = false := by
  rw [fd_tup h]
  match ds, h2, h3 with
  | [], _, _ => rfl
  | [_], _, _ => rfl
  | [_, _], h, _ => exact absurd rfl h
  | [_, _, _], _, h => exact absurd rfl h
  | _ :: _ :: _ :: _ :: _, _, _ => rfl
theorem fd_cell3 {wd : Int} {d0 d1 d2 : Dat} : fitsD "cell" wd (.tuple [d0, d1, d2]) = false := by
  rw [fd_tup (by decide)]
  show (decide ((Str.ofString "cell") = (Str.ofString "flop")) && (intBit d0 && intBit d2)) = false
  rw [decide_eq_false (by decide)]
  rfl
theorem fd_cell2 {wd : Int} {d0 d1 : Dat} : fitsD "cell" wd (.tuple [d0, d1]) = isTab d1 wd := by
  rw [fd_tup (by decide)]
  show fits2 _ _ _ = _
  unfold fits2
  rw [if_pos rfl]
theorem fd_latch {wd : Int} {n : Str} {b : Int} : fitsD "latch" wd (.tuple [.str n, .int b]) = bit01 b := by
  rw [fd_tup (by decide)]
  show fits2 _ _ _ = _
  unfold fits2
  rw [if_neg (by decide), if_pos rfl]
  rfl
theorem fd_flop {wd : Int} {n : Str} {e b : Int} : fitsD "flop" wd (.tuple [.int e, .str n, .int b]) = (bit01 e && bit01 b) := by
  rw [fd_tup (by decide)]
  show (decide ((Str.ofString "flop") = (Str.ofString "flop")) && (bit01 e && bit01 b)) = _
  rw [decide_eq_true rfl]
  rfl
theorem fd_int {kind : Str} {wd : Int} {i : Int} (h : kind ≠ "lut") : fitsD kind wd (.int i) = false := by
  unfold fitsD
  rw [if_neg h]
theorem fd_str {kind : Str} {wd : Int} {x : Str} (h : kind ≠ "lut") : fitsD kind wd (.str x) = false := by
  unfold fitsD
  rw [if_neg h]
theorem fd_lut {wd : Int} {d : Dat} : fitsD "lut" wd d = isTab d wd := by
  unfold fitsD
  rw [if_pos rfl]

end
section
open PySem PySem.W PyProof.Rows
theorem few2 {a b : Nat} {k : Int} (e : a = b) (h : (b : Int) = k) (hk : k ≠ 2) : a ≠ 2 := by omega
theorem few3 {a b : Nat} {k : Int} (e : a = b) (h : (b : Int) = k) (hk : k ≠ 3) : a ≠ 3 := by omega
section
variable {prog : Program} {w : World} {p : Program} {loose : List Str} {mean : ExcName → Option Value} {mg mb : Str → Option Value} {news : List (Addr × Obj)}
inductive ParIn (news : List (Addr × Obj)) : Str → Value → Dat → Prop
  | lut (v : Value) (d : Dat) : TabV news v d → ParIn news "lut" v d
  | none (kind : Str) : kind ≠ "lut" → ParIn news kind .none .none
  | int (kind : Str) (i : Int) (t : Tok) : kind ≠ "lut" → ParIn news kind (.int i t) (.int i)
  | str (kind : Str) (x : Str) (t : Tok) : kind ≠ "lut" → ParIn news kind (.str x t) (.str x)
  | few (kind : Str) (a : Addr) (vs : List Value) (ds : List Dat) (k : Int) : kind ≠ "lut" → (vs.length : Int) = k → k ≠ 2 → k ≠ 3 → k ≤ 100 → ds.length = vs.length → (a, tupO vs) ∈ news → ParIn news kind (.ref a) (.tuple ds)
  | cell3 (a : Addr) (v0 v1 v2 : Value) (d0 d1 d2 : Dat) : (a, tupO [v0, v1, v2]) ∈ news → ParIn news "cell" (.ref a) (.tuple [d0, d1, d2])
  | cell2 (a : Addr) (v0 v1 : Value) (d0 d1 : Dat) : (a, tupO [v0, v1]) ∈ news → TabV news v1 d1 → ParIn news "cell" (.ref a) (.tuple [d0, d1])
  | latch (a : Addr) (n : Str) (t u : Tok) (b : Int) : (a, tupO [.str n t, .int b u]) ∈ news → ParIn news "latch" (.ref a) (.tuple [.str n, .int b])
  | flop (a : Addr) (e : Int) (n : Str) (t u v : Tok) (b : Int) : (a, tupO [.int e t, .str n u, .int b v]) ∈ news → ParIn news "flop" (.ref a) (.tuple [.int e, .str n, .int b])
theorem ParIn.tab {kind : Str} {pv : Value} {pd : Dat} (hp : ParIn news kind pv pd) (e : (kind == (Str.ofString "lut")) = true) : TabV news pv pd := by
  cases hp with
  | lut _ _ h => exact h
  | _ => first | exact absurd e (by decide) | (exfalso; simp_all; done)
set_option maxRecDepth 100000 in
set_option maxHeartbeats 8000000 in
theorem fits_con (c ai : Addr) (kind : Str) (out wd : Int) (kt ot : Tok) (pv : Value) (pd : Dat) (ivs : List Value) (hc : (c, tupO [.str kind kt, .int out ot, .ref ai, pv]) ∈ news) (hi : (ai, tupO ivs) ∈ news) (hw : (ivs.length : Int) = wd) (h0 : 0 ≤ wd) (h1 : wd ≤ 70) (hp : ParIn news kind pv pd) :
    Con prog w p loose mean mg mb 4 180 [.ref c] news (fun r nx => nx = news ∧ r = .bool (fitsD kind wd pd)) := by
  w_top off; (have hfill : PySem.Challenge.rw_pq0453_01 = PySem.Challenge.rw_pq0453_01 ∧ hd.heap_39 = hd.heap_39 := (by k_fill; exact ⟨rfl, rfl⟩)); clear hfill
  k_with_none
  k_with "call builtin:len" => (k_here; (with_reducible show wpAny _ _ (call (Value.builtin "len") [Value.ref _]) _ _ _); k_dflt (refine' lenT ?k1 ?k2 ?k3 ?k4 ?_; (case k1 => k_asm); (case k2 => k_mem); (case k3 => first | assumption | exact rfl); (case k4 => first | exact big2 (by assumption) (by assumption) (by decide) | exact big1 (by assumption) (by decide) | decide | omega); intro tk' tk''))
  k_with "subscriptTail" => (k_here; (with_reducible show wpAny _ _ (subscriptTail _ _ (Value.ref _) (Value.int _ _)) _ _ _); k_dflt (refine' itemT ?k1 ?k2 ?k3 ?k4 ?k5 ?_; (case k1 => k_asm); (case k2 => k_mem); (case k3 => decide); (case k4 => decide); (case k5 => exact rfl); k_whole))
  k_with "call ref" => (k_here; (with_reducible show wpAny _ _ (call (Value.ref 173) _) _ _ _); k_dflt ((refine' Con.use (tab_con _ _ _ _ ?q1 ?q2 ?q3) ?k1 ?k2 ?k3 ?k4 ?k5 ?kK ?kd ?ku ?_; (case k1 => k_asm); (case k2 => k_asm); (case k3 => k_asm); (case k4 => k_asm); (case k5 => k_asm); (case kK => first | exact rfl | assumption); (case q1 => first | assumption | omega); (case q2 => first | assumption | omega); (case q3 => first | assumption | exact ParIn.tab (by assumption) (by assumption)); (case kd => first | exact room1 hdp rfl | exact room0 hdp rfl | ktr_room); (case ku => first | exact room2 hun rfl | exact room3 hun rfl | ktr_units)); intro r9 nx9 h9 tk9 F9 N9 hP9; (refine hide fun P9 hX9 => ?_); (obtain ⟨e9, e8⟩ := hP9; subst e9; subst e8); (refine hX9 ?_); clear hX9; (try dsimp only); (try k_fold)))
  (unfold Con; intro dp un gd cn cs a ccd cl outer A₀ base h₀ L m sheap sgens sdrawn stoks sos Q E B F X N T hk hdp hun hret; refine wpAny_call ?_; k_dflt (refine' code_defL ?k1 ?k2 ?k3 ?k4 ?k5 ?kA ?kF ?kK ?k6 ?k7 ?k8 ?k9 ?kB ?_ ?c2 ?c3 ?c4 ?c5; (case kA => exact rfl); (case kF => exact rfl); (case kK => assumption); (case k1 => k_asm); (case k2 => k_asm); (case k3 => k_asm); (case k4 => k_asm); (case k5 => k_asm); (case k6 => k_is); (case k7 => k_is); (case k8 => first | exact Nat.lt_of_le_of_lt (Nat.le_add_right _ _) hdp | ktr_room); (case k9 => exact BindsTo.of_eq rfl); (case c5 => decide); (case kB => exact locs rfl); (case c2 => exact rfl); (case c3 => exact rfl); (case c4 => exact rfl); k_whole; intro g' L' h' tk' en' An' mm' FG' F' N' B' X' T' qq' ee'; (try dsimp only); (try k_lift B')))
  k_steps
  · (refine hret _ _ _ _ (by k_asm) (by k_asm) ?_)
    refine ⟨rfl, ?_⟩
    clear hret F N B
    rename (_ == _) = true => e
    rw [beq_iff_eq.mp e, fd_lut]
  · rename (_ == _) = false => e
    cases hp
    all_goals try (exact absurd e (by decide))
    all_goals k_steps
    all_goals try (exfalso; omega)
    all_goals (refine hret _ _ _ _ (by k_asm) (cb_drop (by k_asm) (by intro q9 hq9; first | exact hq9 | exact .tail _ hq9 | exact .tail _ (.tail _ hq9))) ⟨rfl, ?_⟩)
    all_goals clear hret F N B
    all_goals (refine congrArg Value.bool ?_)
    all_goals try (with_reducible rename _ ≠ (Str.ofString "lut") => hne)
    all_goals try (with_reducible rename ¬ _ = (Str.ofString "lut") => hne)
    · exact fd_none hne
    · exact (fd_int hne).symm
    · exact (fd_str hne).symm
    · rw [fd_few hne (by first | exact few2 (by assumption) (by assumption) (by assumption) | omega) (by first | exact few3 (by assumption) (by assumption) (by assumption) | omega), beq_eq_false_iff_ne]; assumption
    · rw [fd_few hne (by first | exact few2 (by assumption) (by assumption) (by assumption) | omega) (by first | exact few3 (by assumption) (by assumption) (by assumption) | omega), beq_eq_false_iff_ne]; assumption
    · rw [fd_few hne (by first | exact few2 (by assumption) (by assumption) (by assumption) | omega) (by first | exact few3 (by assumption) (by assumption) (by assumption) | omega), beq_eq_false_iff_ne]; assumption
    · exact (fd_few hne (by first | exact few2 (by assumption) (by assumption) (by assumption) | omega) (by first | exact few3 (by assumption) (by assumption) (by assumption) | omega)).symm
    · exact fd_cell3.symm
    · exact fd_cell2.symm
    · rw [fd_latch, any01]
    · rename List.any _ _ = true => ha
      rw [any01] at ha
      rw [fd_flop, ha, any01]; rfl
    · rename List.any _ _ = false => ha
      rw [fd_flop, ha, ← any01, ha]; rfl
end

end
section
open PySem PySem.W PyProof.Rows
/-- two lists, item by item -/
inductive Rel2 {α : Type} (R : Value → α → Prop) : List Value → List α → Prop
  | nil : Rel2 R [] []
  | cons {v : Value} {a : α} {vs : List Value} {as : List α} : R v a → Rel2 R vs as → Rel2 R (v :: vs) (a :: as)
section
variable {α : Type} {R S : Value → α → Prop}
theorem Rel2.length {vs : List Value} {as : List α} (h : Rel2 R vs as) : vs.length = as.length := by
  induction h with
  | nil => rfl
  | cons _ _ ih => rw [List.length_cons, List.length_cons, ih]
theorem Rel2.mono {vs : List Value} {as : List α} (h : Rel2 R vs as) (f : ∀ v a, R v a → S v a) : Rel2 S vs as := by
  induction h with
  | nil => exact .nil
  | cons r _ ih => exact .cons (f _ _ r) ih
theorem Rel2.snoc {vs : List Value} {as : List α} (h : Rel2 R vs as) {v : Value} {a : α} (r : R v a) : Rel2 R (vs ++ [v]) (as ++ [a]) := by
  induction h with
  | nil => exact .cons r .nil
  | cons r' _ ih => exact .cons r' ih
theorem Rel2.at {vs : List Value} {as : List α} (h : Rel2 R vs as) : ∀ (i : Nat) (v : Value), vs[i]? = some v → ∃ a, as[i]? = some a ∧ R v a := by
  induction h with
  | nil => intro i v e; simp at e
  | cons r _ ih =>
    intro i v e
    cases i with
    | zero => simp only [List.getElem?_cons_zero, Option.some.injEq] at e ⊢; exact ⟨_, rfl, e ▸ r⟩
    | succ i => simp only [List.getElem?_cons_succ] at e ⊢; exact ih i v e
end
theorem TabV.mono {news news' : List (Addr × Obj)} {v : Value} {d : Dat} (h : TabV news v d) (s : ∀ p ∈ news, p ∈ news') : TabV news' v d := by
  cases h with
  | none => exact .none
  | int i t => exact .int i t
  | str x t => exact .str x t
  | ref a vs ds m => exact .ref a vs ds (s _ m)
theorem ParIn.mono {news news' : List (Addr × Obj)} {kind : Str} {v : Value} {d : Dat} (h : ParIn news kind v d) (s : ∀ p ∈ news, p ∈ news') : ParIn news' kind v d := by
  cases h with
  | lut _ _ h => exact .lut _ _ (h.mono s)
  | none _ h => exact .none _ h
  | int _ i t h => exact .int _ i t h
  | str _ i t h => exact .str _ i t h
  | few _ a vs ds k a1 a2 a3 a4 a5 a6 m => exact .few _ a vs ds k a1 a2 a3 a4 a5 a6 (s _ m)
  | cell3 a v0 v1 v2 d0 d1 d2 m => exact .cell3 a v0 v1 v2 d0 d1 d2 (s _ m)
  | cell2 a v0 v1 d0 d1 m h => exact .cell2 a v0 v1 d0 d1 (s _ m) (h.mono s)
  | latch a n t u b m => exact .latch a n t u b (s _ m)
  | flop a e n t u v b m => exact .flop a e n t u v b (s _ m)
structure CellD where
  kind : Str
  out : Int
  ins : List Int
  pd : Dat
/-- the cell's make is one of the law's -/
def CellD.Ok (c : CellD) (W : Int) : Prop := c.ins.length ≤ 70 ∧ (∀ (j : Nat) b, c.ins[j]? = some b → b = 2 + (j : Int) % W) ∧ (c.kind ∈ [(Str.ofString "lut"), Str.ofString "cell"] ∨ (c.kind ∈ [(Str.ofString "and")] ∧ c.ins.length = 2) ∨ (c.kind ∈ [(Str.ofString "not")] ∧ c.ins.length = 1) ∨ (c.kind ∈ [(Str.ofString "flop"), Str.ofString "latch"] ∧ c.ins.length = 4))
def CellD.fits (c : CellD) : Bool := fitsD c.kind c.ins.length c.pd
inductive CellIn (news : List (Addr × Obj)) : Value → CellD → Prop
  | mk (a ai : Addr) (kind : Str) (out : Int) (ins : List Int) (pd : Dat) (kt ot : Tok) (pv : Value) (ivs : List Value) : (a, tupO [.str kind kt, .int out ot, .ref ai, pv]) ∈ news → (ai, tupO ivs) ∈ news → IntsAre ivs ins → ParIn news kind pv pd → CellIn news (.ref a) ⟨kind, out, ins, pd⟩
theorem CellIn.mono {news news' : List (Addr × Obj)} {v : Value} {c : CellD} (h : CellIn news v c) (s : ∀ p ∈ news, p ∈ news') : CellIn news' v c := by
  cases h with
  | mk a ai kind out ins pd kt ot pv ivs m1 m2 hi hp => exact .mk a ai kind out ins pd kt ot pv ivs (s _ m1) (s _ m2) hi (hp.mono s)
/-- the fault of one out -/
inductive FaultIn (news : List (Addr × Obj)) : Value → Int → Prop
  | mk (a : Addr) (o : Int) (t u : Tok) : (a, tupO [.str (Str.ofString "wrong_param") t, .int o u]) ∈ news → FaultIn news (.ref a) o
theorem FaultIn.mono {news news' : List (Addr × Obj)} {v : Value} {o : Int} (h : FaultIn news v o) (s : ∀ p ∈ news, p ∈ news') : FaultIn news' v o := by
  cases h with
  | mk a o t u m => exact .mk a o t u (s _ m)
def dueOf (cs : List CellD) : List Int := (cs.filter fun c => !c.fits).map (·.out)
theorem dueOf_snoc {cs : List CellD} {i : Nat} {c : CellD} (h : cs[i]? = some c) : dueOf (cs.take (i + 1)) = dueOf (cs.take i) ++ (if c.fits then [] else [c.out]) := by
  unfold dueOf
  rw [List.take_add_one, h, List.filter_append, List.map_append]
  cases hf : c.fits <;> simp [hf]
theorem dueOf_len (cs : List CellD) : (dueOf cs).length ≤ cs.length := by
  unfold dueOf
  rw [List.length_map]
  exact List.length_filter_le _ _
/-- the netlist's objects stand in the ledger -/
inductive NetIn (news : List (Addr × Obj)) : Addr → Int → List Int → Addr → List Value → Prop
  | mk (x dx ia oa ca it bl : Addr) (h1 h2 h3 h4 h5 : Int) (t1 t2 t3 t4 t5 u1 u2 u3 : Tok) (n1 n2 n3 n4 : Nat) (count : Int) (bits : List Int) (bvs cvs : List Value) :
      (x, instObj 141 dx) ∈ news →
      (dx, dictOf [⟨h1, .str (Str.ofString "name") t1, .str (Str.ofString "m") u1⟩, ⟨h2, .str (Str.ofString "count") t2, .int count u2⟩, ⟨h3, .str (Str.ofString "inputs") t3, .ref ia⟩, ⟨h4, .str (Str.ofString "outputs") t4, .ref oa⟩, ⟨h5, .str (Str.ofString "cells") t5, .ref ca⟩] 5) ∈ news →
      (ia, listOf [Value.ref it].toArray n1) ∈ news → (oa, listOf ([] : List Value).toArray n2) ∈ news → (ca, listOf cvs.toArray n3) ∈ news →
      (it, tupO [.str (Str.ofString "a") u3, .ref bl]) ∈ news → (bl, listOf bvs.toArray n4) ∈ news → IntsAre bvs bits →
      NetIn news x count bits ca cvs
theorem NetIn.mono {news news' : List (Addr × Obj)} {x ca : Addr} {count : Int} {bits : List Int} {cvs : List Value} (h : NetIn news x count bits ca cvs) (s : ∀ p ∈ news, p ∈ news') : NetIn news' x count bits ca cvs := by
  cases h
  constructor
  all_goals first | assumption | (apply s; assumption)

end
section
open PySem PySem.W PyProof.Rows
section
variable {prog : Program} {w : World} {p : Program} {loose : List Str} {mean : ExcName → Option Value} {mg mb : Str → Option Value} {news : List (Addr × Obj)}
def expIns (kind : Str) : Int :=
  if kind == (Str.ofString "buf") then 1 else if kind == (Str.ofString "not") then 1 else if [(Str.ofString "and"), Str.ofString "or", Str.ofString "xor", Str.ofString "nand", Str.ofString "nor", Str.ofString "xnor"].any (fun x => x == kind) then 2
  else if kind == (Str.ofString "mux") then 3 else if kind == (Str.ofString "flop") then 4 else if kind == (Str.ofString "latch") then 4 else if kind == (Str.ofString "lut") then -1 else if kind == (Str.ofString "cell") then -1 else -2
set_option maxRecDepth 100000 in
set_option maxHeartbeats 8000000 in
theorem exp_con (kind : Str) (kt : Tok) : Con prog w p loose mean mg mb 2 166 [.str kind kt] news (fun r nx => nx = news ∧ ∃ t, r = .int (expIns kind) t) := by
  w_top off; (have hfill : PySem.Challenge.rw_pq0453_01 = PySem.Challenge.rw_pq0453_01 ∧ hd.heap_39 = hd.heap_39 := (by k_fill; exact ⟨rfl, rfl⟩)); clear hfill
  k_with_none
  k_with "storeName" => (k_here; k_dflt (refine' storeL ?F ?N ?_ ?a ?b; (case F => k_asm); (case N => k_asm); (case a => rfl); (case b => rfl); k_whole; intro h' tk' mm' F' N'))
  (unfold Con; intro dp un gd cn cs a ccd cl outer A₀ base h₀ L m sheap sgens sdrawn stoks sos Q E B F X N T hk hdp hun hret; refine wpAny_call ?_; k_dflt (refine' code_defL ?k1 ?k2 ?k3 ?k4 ?k5 ?kA ?kF ?kK ?k6 ?k7 ?k8 ?k9 ?kB ?_ ?c2 ?c3 ?c4 ?c5; (case kA => exact rfl); (case kF => exact rfl); (case kK => assumption); (case k1 => k_asm); (case k2 => k_asm); (case k3 => k_asm); (case k4 => k_asm); (case k5 => k_asm); (case k6 => k_is); (case k7 => k_is); (case k8 => first | exact Nat.lt_of_le_of_lt (Nat.le_add_right _ _) hdp | ktr_room); (case k9 => exact BindsTo.of_eq rfl); (case c5 => decide); (case kB => exact locs rfl); (case c2 => exact rfl); (case c3 => exact rfl); (case c4 => exact rfl); k_whole; intro g' L' h' tk' en' An' mm' FG' F' N' B' X' T' qq' ee'; (try dsimp only); (try k_lift B')))
  k_steps
  all_goals (refine hret _ _ _ _ (by k_asm) (cb_drop (by k_asm) (by intro q9 hq9; first | exact hq9 | exact .tail _ hq9 | exact .tail _ (.tail _ hq9))) ⟨rfl, ?_⟩)
  all_goals clear hret F N B X T
  all_goals (refine ⟨_, congrArg (fun i => Value.int i _) ?_⟩; simp only [expIns, *, if_true, if_false, Bool.false_eq_true])
end
theorem CellD.Ok.exp {c : CellD} {W : Int} (h : c.Ok W) : expIns c.kind = -1 ∨ (0 ≤ expIns c.kind ∧ expIns c.kind = c.ins.length) := by
  obtain ⟨_, _, h | ⟨h, e⟩ | ⟨h, e⟩ | ⟨h, e⟩⟩ := h
  · left
    simp only [List.mem_cons, List.not_mem_nil, or_false] at h
    rcases h with h | h <;> rw [h] <;> decide
  · right
    rw [List.mem_singleton.mp h, e]; decide
  · right
    rw [List.mem_singleton.mp h, e]; decide
  · right
    simp only [List.mem_cons, List.not_mem_nil, or_false] at h
    rcases h with h | h <;> rw [h, e] <;> decide

end
section
open PySem PySem.W PyProof.Rows
section
variable {prog : Program} {w : World} {p : Program} {loose : List Str} {mean : ExcName → Option Value} {mg mb : Str → Option Value} {news : List (Addr × Obj)}
def CFPost (ds : List CellD) (news : List (Addr × Obj)) (r : Value) (nx : List (Addr × Obj)) : Prop :=
  ∃ fa vs n own, r = .ref fa ∧ nx = (fa, listOf vs.toArray n) :: (own ++ news) ∧ Rel2 (FaultIn nx) vs (dueOf ds)
abbrev CFI (fa : Addr) (news : List (Addr × Obj)) (ds : List CellD) (i : Nat) (mu : List (Addr × Obj)) : Prop := ∃ vs n own, mu = (fa, listOf vs.toArray n) :: own ∧ Rel2 (FaultIn (own ++ news)) vs (dueOf (ds.take i)) ∧ ∀ p ∈ own, p.1 ≠ fa
theorem cf_more {h₀ h' : Heap} {L fa D : Addr} {m' m₀ : Str → Option Value} {x : Str} {stored : List Str} {gn : Array GenState} {dr : Drawn} {os : OsState} {tk n i : Nat} {Q : Flow → Shared → Prop} {own ow : List (Addr × Obj)} {vs : List Value} {ds : List CellD} {out : Int} {t u : Tok} {o₀ : Obj}
    (F : Fr h₀ L h' m') (N : News h₀ L h' ((D, tupO [.str (Str.ofString "wrong_param") t, .int out u]) :: (fa, listOf (vs.toArray.push (Value.ref D)) (n + 1)) :: (ow ++ (own ++ news)))) (lD : fa < D ∧ AllLt D (ow ++ (own ++ news)))
    (hoff : OwnOff own (((fa, o₀) :: ow ++ news).map (·.1))) (hr : Rel2 (FaultIn (ow ++ news)) vs (dueOf (ds.take i))) (hds : dueOf (ds.take (i + 1)) = dueOf (ds.take i) ++ [out]) (hw : ∀ p ∈ ow, p.1 ≠ fa)
    (hm : ∀ y, y ≠ x → stored.contains y = false → m' y = m₀ y) : TurnEnd h₀ L (CFI fa news ds (i + 1)) (own ++ news) own stored m₀ x gn dr os Q .next ⟨h', gn, dr, tk, os⟩ := by
  rw [List.push_toArray] at N
  refine TurnEnd.to ((fa, listOf (vs ++ [Value.ref D]).toArray (n + 1)) :: (D, tupO [.str (Str.ofString "wrong_param") t, .int out u]) :: ow) F (fun p hp => N p ?_) ?_ ⟨_, _, _, rfl, ?_, ?_⟩ hm
  · simp only [List.mem_append, List.mem_cons] at hp ⊢
    rcases hp with (h | h | h) | h | h <;> simp [h]
  · intro p hp b hb
    simp only [List.map_cons, List.mem_cons] at hb
    rcases hb with h | h | h
    · rw [h]; exact hoff p hp fa (by simp)
    · rw [h]; exact Nat.ne_of_lt (ktn_ltOf lD.2 p (by simp [hp]))
    · exact hoff p hp b (by simp only [List.map_append, List.map_cons, List.mem_append, List.mem_cons]; exact .inl (.inr h))
  · rw [hds]
    exact (hr.mono fun v a r => r.mono fun p hp => List.mem_cons_of_mem _ hp).snoc (.mk D out t u List.mem_cons_self)
  · intro p hp
    rcases List.mem_cons.mp hp with h | h
    · rw [h]; exact Nat.ne_of_gt lD.1
    · exact hw p h
set_option maxRecDepth 100000 in
set_option maxHeartbeats 8000000 in
theorem cf_con (x ca : Addr) (count W : Int) (bits : List Int) (cvs : List Value) (ds : List CellD) (hn : NetIn news x count bits ca cvs) (hc : Rel2 (CellIn news) cvs ds) (hl : ds.length ≤ 4) (ho : ∀ c ∈ ds, c.Ok W) :
    Con prog w p loose mean mg mb 6 187 [.ref x] news (CFPost ds news) := by
  w_top off; (have hfill : PySem.Challenge.rw_pq0453_01 = PySem.Challenge.rw_pq0453_01 ∧ hd.heap_39 = hd.heap_39 := (by k_fill; exact ⟨rfl, rfl⟩)); clear hfill
  k_with_none
  k_with "storeName" => (k_here; k_dflt (refine' storeL ?F ?N ?_ ?a ?b; (case F => k_asm); (case N => k_asm); (case a => rfl); (case b => rfl); k_whole; intro h' tk' mm' F' N'))
  k_with "pyIter ref" => ((with_reducible show wpAny _ _ (pyIter (Value.ref _)) (fun it s₂ => LoopAtV _ _ _ _ _ _ _ _ _ it s₂) _ _); refine Stop.out ?_)
  k_with "call builtin:len" => (k_here; (with_reducible show wpAny _ _ (call (Value.builtin "len") [Value.ref _]) _ _ _); k_dflt (refine' lenT ?k1 ?k2 ?k3 ?k4 ?_; (case k1 => k_asm); (case k2 => k_mem); (case k3 => first | assumption | exact rfl); (case k4 => first | exact big2 (by assumption) (by assumption) (by decide) | exact big1 (by assumption) (by decide) | decide | omega); intro tk' tk''))
  k_with "subscriptTail" => (k_here; (with_reducible show wpAny _ _ (subscriptTail _ _ (Value.ref _) (Value.int _ _)) _ _ _); k_dflt (refine' itemT ?k1 ?k2 ?k3 ?k4 ?k5 ?_; (case k1 => k_asm); (case k2 => k_mem); (case k3 => decide); (case k4 => decide); (case k5 => exact rfl); k_whole))
  k_with "call ref" => (k_here; (with_reducible show wpAny _ _ (call (Value.ref 166) _) _ _ _); k_dflt ((refine' Con.use (exp_con _ _) ?k1 ?k2 ?k3 ?k4 ?k5 ?kK ?kd ?ku ?_; (case k1 => k_asm); (case k2 => k_asm); (case k3 => k_asm); (case k4 => k_asm); (case k5 => k_asm); (case kK => first | exact rfl | assumption); (case kd => first | exact room1 hdp rfl | exact room0 hdp rfl | ktr_room); (case ku => first | exact room2 hun rfl | exact room3 hun rfl | ktr_units)); intro r9 nx9 h9 tk9 F9 N9 hP9; (refine hide fun P9 hX9 => ?_); (obtain ⟨e9, t9, e8⟩ := hP9; subst e9; subst e8); (refine hX9 ?_); clear hX9; (try dsimp only); (try k_fold)))
  k_with "call ref" => (k_here; (with_reducible show wpAny _ _ (call (Value.ref 180) _) _ _ _); k_dflt ((refine' Con.use (fits_con _ _ _ _ _ _ _ _ _ _ ?q1 ?q2 ?q3 ?q4 ?q5 ?q6) ?k1 ?k2 ?k3 ?k4 ?k5 ?kK ?kd ?ku ?_; (case k1 => k_asm); (case k2 => k_asm); (case k3 => k_asm); (case k4 => k_asm); (case k5 => k_asm); (case kK => first | exact rfl | assumption); (case q1 => k_mem); (case q2 => k_mem); (case q3 => exact rfl); (case q4 => first | assumption | omega); (case q5 => first | assumption | omega); (case q6 => first | assumption | exact ParIn.mono (by assumption) (by intro p9 hp9; k_mem)); (case kd => first | exact room1 hdp rfl | exact room0 hdp rfl | ktr_room); (case ku => first | exact room2 hun rfl | exact room3 hun rfl | ktr_units)); intro r9 nx9 h9 tk9 F9 N9 hP9; (refine hide fun P9 hX9 => ?_); (obtain ⟨e9, e8⟩ := hP9; subst e9; subst e8); (refine hX9 ?_); clear hX9; (try dsimp only); (try k_fold)))
  k_with "ite" => (refine ite_isFalse (hq3 (by assumption)) ?_)
  (unfold Con; intro dp un gd cn cs a ccd cl outer A₀ base h₀ L m sheap sgens sdrawn stoks sos Q E B F X N T hk hdp hun hret; refine wpAny_call ?_; k_dflt (refine' code_defL ?k1 ?k2 ?k3 ?k4 ?k5 ?kA ?kF ?kK ?k6 ?k7 ?k8 ?k9 ?kB ?_ ?c2 ?c3 ?c4 ?c5; (case kA => exact rfl); (case kF => exact rfl); (case kK => assumption); (case k1 => k_asm); (case k2 => k_asm); (case k3 => k_asm); (case k4 => k_asm); (case k5 => k_asm); (case k6 => k_is); (case k7 => k_is); (case k8 => first | exact Nat.lt_of_le_of_lt (Nat.le_add_right _ _) hdp | ktr_room); (case k9 => exact BindsTo.of_eq rfl); (case c5 => decide); (case kB => exact locs rfl); (case c2 => exact rfl); (case c3 => exact rfl); (case c4 => exact rfl); k_whole; intro g' L' h' tk' en' An' mm' FG' F' N' B' X' T' qq' ee'; (try dsimp only); (try k_lift B')))
  cases hn
  k_steps
  rename_i fa _ _ _ l1 _
  rename News _ _ _ _ => N1
  refine Stop.mk ?_
  refine loopL (mu₀ := [(fa, listOf ([] : List Value).toArray 0)]) (G := news) [(Str.ofString "expected")] (CFI fa news ds) rfl (by assumption) (by assumption) N1 ⟨[], 0, [], rfl, .nil, fun _ h => nomatch h⟩ ?_ ?_
  · rintro i v u mu h tk own hv hoff hI9 F2 N2
    refine genT fun QQ hQQ => ?_
    obtain ⟨vs, n, ow, rfl, hr, hw⟩ := hI9
    obtain ⟨c, hci, hcc⟩ := hc.at i v hv
    have hok := ho c (List.mem_of_getElem? hci)
    have hexp := hok.exp
    have hil := hok.1
    have hds := dueOf_snoc hci
    have hno : ∀ p ∈ ow ++ (own ++ news), p.1 ≠ fa := by
      intro p hp
      rcases List.mem_append.mp hp with hp | hp
      · exact hw p hp
      rcases List.mem_append.mp hp with hp | hp
      · exact hoff p hp fa (by simp)
      · exact Nat.ne_of_lt (l1 p hp)
    cases hcc with
    | mk ca' ai kind out ins pd kt ot pv ivs m1 m2 hi hp =>
    have hiv := hi.length
    clear N1 hok
    dsimp only at hexp hil hds
    have hvl : vs.length ≤ 4 := by
      rw [hr.length]
      exact Nat.le_trans (dueOf_len _) (Nat.le_trans (List.length_take_le' _ _) hl)
    have hq1 : (expIns kind == (-2)) = false := by rcases hexp with h | h <;> exact beq_eq_false_iff_ne.mpr (by omega)
    have hq3 : 0 ≤ expIns kind → ((ivs.length : Int) != expIns kind) = false := by
      intro h0
      rw [show (ivs.length : Int) = expIns kind by omega]
      exact bne_self_eq_false _
    simp only [List.cons_append, List.nil_append] at N2
    dsimp only
    (try k_fold)
    k_steps
    all_goals rename News _ _ _ _ => N3
    all_goals rename fitsD _ _ _ = _ => hf
    all_goals (rw [hiv] at hf)
    all_goals (have hf' : CellD.fits ⟨kind, out, ins, pd⟩ = _ := hf)
    all_goals rw [hf'] at hds
    all_goals (clear hret B)
    · refine TE.to hQQ ((fa, listOf vs.toArray n) :: ow) (by assumption) N3 ?_ ⟨vs, n, ow, rfl, by rw [hds, if_pos rfl, List.append_nil]; exact hr, hw⟩ (fr_step (by decide) fr_base)
      exact fun p hp b hb => hoff p hp b (by rw [List.map_append]; exact List.mem_append_left _ hb)
    · exact hQQ _ _ (cf_more (by assumption) N3 (by assumption) hoff hr (by rw [hds, if_neg (by decide)]) hw (fr_step (by decide) fr_base))
    · refine TE.to hQQ ((fa, listOf vs.toArray n) :: ow) (by assumption) N3 ?_ ⟨vs, n, ow, rfl, by rw [hds, if_pos rfl, List.append_nil]; exact hr, hw⟩ (fr_step (by decide) fr_base)
      exact fun p hp b hb => hoff p hp b (by rw [List.map_append]; exact List.mem_append_left _ hb)
    · exact hQQ _ _ (cf_more (by assumption) N3 (by assumption) hoff hr (by rw [hds, if_neg (by decide)]) hw (fr_step (by decide) fr_base))
  · rintro u mu h tk hI9 F2 N2
    refine hide fun P9 hX9 => ?_
    obtain ⟨vs, n, ow, rfl, hr, hw⟩ := hI9
    refine hX9 ?_
    clear hX9
    clear N1
    dsimp only
    (try k_fold)
    k_steps
    rename News _ _ _ _ => N3
    refine hret _ _ _ _ (by k_asm) N3 ⟨fa, vs, n, ow, rfl, rfl, ?_⟩
    rw [hc.length, List.take_length] at hr
    exact (hr.mono fun v a r => r.mono fun p hp => List.mem_cons_of_mem _ hp)
end

end
section
open PySem PySem.W PyProof.Rows
theorem all_snoc {zs : List Int} {x : Int} (h : ∀ z ∈ zs, 0 ≤ z ∧ z < 4096) (hx : 0 ≤ x ∧ x < 4096) : ∀ z ∈ zs ++ [x], 0 ≤ z ∧ z < 4096 :=
  List.forall_mem_append.mpr ⟨h, List.forall_mem_cons.mpr ⟨hx, List.forall_mem_nil _⟩⟩
theorem in4096 {a : Int} : 0 ≤ a.fmod 4096 ∧ a.fmod 4096 < 4096 := ⟨Int.fmod_nonneg_of_pos a (by decide), Int.fmod_lt_of_pos a (by decide)⟩
theorem in4093 {a : Int} : 0 ≤ a.fmod 4093 ∧ a.fmod 4093 < 4096 := ⟨Int.fmod_nonneg_of_pos a (by decide), Int.lt_trans (Int.fmod_lt_of_pos a (by decide)) (by decide)⟩
theorem off_one {own : List (Addr × Obj)} {d : Addr} {o : Obj} (h : ∀ p ∈ own, p.1 ≠ d) : OwnOff own ([(d, o)].map (·.1)) := fun p hp b hb => by rw [List.mem_singleton.mp hb]; exact h p hp
theorem len63 {a b i : Nat} {ns : List Int} {k : Int} (h1 : a = b) (h2 : b = i) (h3 : (ns.take 30)[i]? = some k) (h4 : ns.length ≤ 63) : a ≤ 63 := by
  have h5 := (List.getElem?_eq_some_iff.mp h3).1
  have h6 := List.length_take_le' 30 ns
  omega
theorem damp0 {a : Nat} : (0 : Int) ≤ 19 + (a : Int) := by omega
theorem damp1 {a b c : Nat} (h : a = b) (h1 : b = c) (h2 : c ≤ 30) : (19 : Int) + (a : Int) < 5000 := by omega
theorem len_up {a b : Nat} {zs : List Int} {x : Int} (h : a = zs.length) (h1 : (a : Int) < 30) : (zs ++ [x]).length ≤ 30 ∧ 30 - (zs ++ [x]).length < 30 - zs.length := by
  rw [List.length_append, List.length_singleton]; omega
theorem len_end {a b : Nat} (h : a = b) (h1 : b ≤ 30) (h2 : ¬ (a : Int) < 30) : b = 30 := by omega
section
variable {prog : Program} {w : World} {p : Program} {loose : List Str} {mean : ExcName → Option Value} {mg mb : Str → Option Value} {news : List (Addr × Obj)}
def DropsPost (news : List (Addr × Obj)) (r : Value) (nx : List (Addr × Obj)) : Prop :=
  ∃ d n dvs ds, r = .ref d ∧ nx = (d, listOf dvs.toArray n) :: news ∧ IntsAre dvs ds ∧ ds.length = 30 ∧ (∀ x ∈ ds, 0 ≤ x ∧ x < 4096) ∧ ∀ q ∈ news, q.1 < d
set_option maxRecDepth 100000 in
set_option maxHeartbeats 8000000 in
theorem drops_con (l : Addr) (vs : List Value) (ns : List Int) (hi : IntsAre vs ns) (hl : ns.length ≤ 63) : ConL prog w p loose mean mg mb 3 222 l vs [.ref l] news (DropsPost news) := by
  w_top off; (have hfill : PySem.Challenge.rw_pq0453_01 = PySem.Challenge.rw_pq0453_01 ∧ hd.heap_39 = hd.heap_39 := (by k_fill; exact ⟨rfl, rfl⟩)); clear hfill
  k_with_none
  k_with "storeName" => (k_here; k_dflt (refine' storeL ?F ?N ?_ ?a ?b; (case F => k_asm); (case N => k_asm); (case a => rfl); (case b => rfl); k_whole; intro h' tk' mm' F' N'))
  k_with "exec For Name Subscript cons nil" => (k_here; (rename Fr _ _ _ _ => lF'); (with_unfolding_all refine' For_invVF lF' ?k1 ?k2 ?_; (case k1 => exact rfl); (case k2 => exact rfl); k_whole))
  k_with "pyIter ref" => ((with_reducible show wpAny _ _ (pyIter (Value.ref _)) (fun it s₂ => LoopAtV _ _ _ _ _ _ _ _ _ it s₂) _ _); refine Stop.out ?_)
  k_with "exec While Compare cons nil" => (refine Stop.out ?_)
  k_with "call builtin:len" => (k_here; (with_reducible show wpAny _ _ (call (Value.builtin "len") [Value.ref _]) _ _ _); k_dflt (refine' lenL ?k1 ?k2 ?k3 ?k4 ?_; (case k1 => k_asm); (case k2 => k_mem); (case k3 => first | assumption | exact rfl); (case k4 => first | exact big2 (by assumption) (by assumption) (by decide) | exact big1 (by assumption) (by decide) | decide | omega); intro tk' tk''))
  (unfold ConL; intro dp un gd cn cs a ccd cl outer A₀ base h₀ L m sheap sgens sdrawn stoks sos Q E B F X N T hL hk hdp hun hret; refine wpAny_call ?_; k_dflt (refine' code_defL ?k1 ?k2 ?k3 ?k4 ?k5 ?kA ?kF ?kK ?k6 ?k7 ?k8 ?k9 ?kB ?_ ?c2 ?c3 ?c4 ?c5; (case kA => exact rfl); (case kF => exact rfl); (case kK => assumption); (case k1 => k_asm); (case k2 => k_asm); (case k3 => k_asm); (case k4 => k_asm); (case k5 => k_asm); (case k6 => k_is); (case k7 => k_is); (case k8 => first | exact Nat.lt_of_le_of_lt (Nat.le_add_right _ _) hdp | ktr_room); (case k9 => exact BindsTo.of_eq rfl); (case c5 => decide); (case kB => exact locs rfl); (case c2 => exact rfl); (case c3 => exact rfl); (case c4 => exact rfl); k_whole; intro g' L' h' tk' en' An' mm' FG' F' N' B' X' T' qq' ee'; (try dsimp only); (try k_lift B')))
  k_steps
  rename_i d _ l1d D ws _ F1 N1 hI hC hL2 l1D
  have hnd : ∀ p ∈ (D, listOf ws.toArray 0) :: news, p.1 ≠ d := by
    exact List.forall_mem_cons.mpr ⟨Nat.ne_of_gt l1D.1, fun p hp => Nat.ne_of_lt (l1d p hp)⟩
  refine Stop.mk ?_
  refine loopL (mu₀ := [(d, listOf ([] : List Value).toArray 0)]) (G := (D, listOf ws.toArray 0) :: news) [] (fun i mu => ∃ xs n zs, mu = [(d, listOf xs.toArray n)] ∧ IntsAre xs zs ∧ zs.length = i ∧ ∀ z ∈ zs, 0 ≤ z ∧ z < 4096) rfl List.mem_cons_self F1 (fun p hp => N1 p (by simp only [List.mem_append, List.mem_cons, List.not_mem_nil, or_false] at hp ⊢; rcases hp with h | h | h <;> simp [h])) ⟨[], 0, [], rfl, .nil, rfl, by simp⟩ ?_ ?_
  · rintro i v u mu h tk own hv hoff hI9 F2 N2
    refine genT fun QQ hQQ => ?_
    obtain ⟨xs, n, zs, rfl, hxs, hzl, hzb⟩ := hI9
    obtain ⟨k, t, rfl, hkn⟩ := hI.at i v hv
    have hno : ∀ p ∈ own ++ (D, listOf ws.toArray 0) :: news, p.1 ≠ d := by
      exact List.forall_mem_append.mpr ⟨fun p hp => hoff p hp d (.head _), hnd⟩
    have hxl : xs.length ≤ 63 := len63 hxs.length hzl hkn hl
    clear F1 N1
    simp only [List.cons_append, List.nil_append] at N2
    dsimp only
    (try k_fold)
    k_steps
    rename News _ _ _ _ => N3
    (try simp only [List.push_toArray] at N3)
    refine TE.to hQQ [(d, listOf (xs ++ [Value.int _ _]).toArray (n + 1))] (by assumption) N3 (off_one fun p hp => hno p (List.mem_append_left _ hp)) ⟨_, _, zs ++ [_], rfl, hxs.append (.cons _ _ .nil), by rw [List.length_append, hzl]; rfl, all_snoc hzb in4096⟩ (fun _ _ _ => by simp [*])
  · rintro u mu h tk hI9 F2 N2
    refine hide fun P9 hX9 => ?_
    obtain ⟨xs, n, zs, rfl, hxs, hzl, hzb⟩ := hI9
    refine hX9 ?_
    clear hX9
    clear F1 N1
    have hwl : ws.length ≤ 30 := hI.length ▸ List.length_take_le 30 ns
    have hxz := hxs.length
    simp only [List.cons_append, List.nil_append] at N2
    dsimp only
    (try k_fold)
    k_steps
    rename Fr _ _ _ _ => F3
    rename News _ _ _ _ => N3
    refine Stop.mk ?_
    refine ksw_while (σ := List Value × Nat × List Int × Int × Tok) (fun c => (d, listOf c.1.toArray c.2.1) :: (D, listOf ws.toArray 0) :: news) (fun c => [((Str.ofString "damp"), Value.int c.2.2.2.1 c.2.2.2.2)]) (fun c => IntsAre c.1 c.2.2.1) []
      (fun c => c.2.2.1.length ≤ 30 ∧ (∀ z ∈ c.2.2.1, 0 ≤ z ∧ z < 4096) ∧ 0 ≤ c.2.2.2.1 ∧ c.2.2.2.1 < 5000) (fun c => 30 - c.2.2.1.length) (xs, n, zs, _, _) F3 N3 hxs (by intro p hp; rw [List.mem_singleton.mp hp]; rfl) ⟨hzl ▸ hwl, hzb, damp0, damp1 hxz hzl hwl⟩ ?_
    clear F3 N3 F2 N2 hxs hzl hzb hxz
    rintro ⟨ys, k, qs, a, t⟩ u h tk hys ⟨hq1, hq2, ha0, ha1⟩ F4 N4
    have hyz := IntsAre.length hys
    dsimp only at F4 N4 hys hq1 hq2 ha0 ha1 hyz ⊢
    (try k_fold)
    k_steps
    · rename Fr _ _ _ _ => F5
      rename News _ _ _ _ => N5
      (try simp only [List.push_toArray] at N5)
      refine ksw_end (ys ++ [_], k + 1, qs ++ [_], _, _) F5 N5 (fun _ hp => hp) (hys.append (.cons _ _ .nil)) (by intro p hp; rw [List.mem_singleton.mp hp]; rfl) (fun z h2 _ => frame_w h2) ⟨(len_up (b := 0) hyz (by assumption)).1, all_snoc hq2 in4093, in4093.1, Int.lt_trans in4093.2 (by decide)⟩ (len_up (b := 0) hyz (by assumption)).2
    · refine hret _ _ _ _ (by k_asm) (fun p hp => ?_) ⟨d, k, ys, qs, rfl, rfl, hys, len_end hyz hq1 (by assumption), hq2, l1d⟩
      rename News _ _ _ _ => N5
      refine N5 p ?_
      rcases List.mem_cons.mp hp with rfl | hp
      · exact .head _
      · exact .tail _ (.tail _ hp)
end

end
section
open PySem PySem.W PyProof.Rows PySem.Calls PyProof.V
section
variable {prog : Program} {w : World} {A : Around} {E : Value → Shared → Prop} {hp : Heap} {gn : Array GenState} {dr : Drawn} {st : Nat} {os : OsState} {env : Env} {h₀ : Heap} {target : Expr} {body : List Stmt} {Q : Flow → Shared → Prop}
theorem rest_of {I : Addr} {c : String} {keep : List (Addr × Obj)} {vs : List Value} (J : Nat → (Str → Option Value) → List (Addr × Obj) → Prop)
    (turn : ∀ i v m nx h tk it, vs[i]? = some v → J i m nx → SubL keep nx → Fr h₀ env.locals h m → News h₀ env.locals h ((I, it) :: nx) →
      wpAny (model prog w) A (assign target env v) (fun _ s₂ => wpAny (model prog w) A (execs body env) (UnrPostW h₀ env.locals ⟨h, gn, dr, tk, os⟩ [(I, it)] (fun m' n' => SubL keep n' ∧ J (i + 1) m' n') Q) E s₂) E ⟨h, gn, dr, tk, os⟩)
    (done : ∀ m nx h tk, J vs.length m nx → Fr h₀ env.locals h m → News h₀ env.locals h nx → Q .next ⟨h, gn, dr, tk, os⟩) :
    ∀ (k i : Nat) (m : Str → Option Value) (nx : List (Addr × Obj)), i + k = vs.length → J i m nx → SubL keep nx → ItemsRest prog w A E h₀ env target body Q ⟨hp, gn, dr, st, os⟩ [(I, c)] keep ((vs.drop i).map .val) m nx := by
  intro k
  induction k with
  | zero =>
    intro i m nx hi hJ _
    rw [List.drop_eq_nil_of_le (by omega)]
    exact fun h tk F N => done m nx h tk ((show i = vs.length by omega) ▸ hJ) F N
  | succ k ih =>
    intro i m nx hi hJ hk
    have hlt : i < vs.length := by omega
    rw [List.drop_eq_getElem_cons hlt, List.map_cons]
    refine ItemsRest.val fun h tk F => AllObj.cons fun it _ => AllObj.nil fun N => ?_
    refine wpAny_mono (turn i vs[i] m nx h tk it (List.getElem?_eq_getElem hlt) hJ hk F N) (fun _ s₂ h₂ => wpAny_mono h₂ (fun f s₃ p => ?_) fun _ _ e => e) fun _ _ e => e
    cases f with
    | ret v => exact p
    | brk => exact p
    | next =>
      obtain ⟨h', tk', m', n', e, F', N', ho, hs, hJ'⟩ := p
      exact ⟨h', tk', m', n', e, F', N', ho, hs, ih (i + 1) m' n' (by omega) hJ' hs⟩
    | cont =>
      obtain ⟨h', tk', m', n', e, F', N', ho, hs, hJ'⟩ := p
      exact ⟨h', tk', m', n', e, F', N', ho, hs, ih (i + 1) m' n' (by omega) hJ' hs⟩
theorem loop_core {l I : Addr} {lo : Obj} {c : String} {vs : List Value} {m₀ : Str → Option Value} {mu₀ G : List (Addr × Obj)} (x : Str) (stored : List Str) (K : Nat → List (Addr × Obj) → Prop) (hx : stored.contains x = true)
    (hl : (l, lo) ∈ G) (hI : ∀ p ∈ mu₀ ++ G, p.1 < I) (h0 : K 0 mu₀)
    (turn : ∀ i v (u : Str → Option Value) mu h tk it, vs[i]? = some v → (∀ p ∈ mu ++ G, p.1 ≠ I) → K i mu → Fr h₀ env.locals h (fun y => if stored.contains y then u y else m₀ y) → News h₀ env.locals h (mu ++ ((I, it) :: G)) →
      wpAny (model prog w) A (assign target env v) (fun _ s₂ => wpAny (model prog w) A (execs body env) (TurnEnd h₀ env.locals (K (i + 1)) ((I, it) :: G) [(I, it)] stored m₀ x gn dr os Q) E s₂) E ⟨h, gn, dr, tk, os⟩)
    (done : ∀ (u : Str → Option Value) mu h tk, K vs.length mu → Fr h₀ env.locals h (fun y => if stored.contains y then u y else m₀ y) → News h₀ env.locals h (mu ++ G) → Q .next ⟨h, gn, dr, tk, os⟩) :
    ItemsRest prog w A E h₀ env target body Q ⟨hp, gn, dr, st, os⟩ [(I, c)] [(l, lo)] (vs.map .val) m₀ (mu₀ ++ G) := by
  have fr : ∀ {m : Str → Option Value}, (∀ y, stored.contains y = false → m y = m₀ y) → m = fun y => if stored.contains y then m y else m₀ y := by
    intro m h
    funext y
    cases h2 : stored.contains y with
    | true => rfl
    | false => simpa using h y h2
  have := rest_of (prog := prog) (w := w) (A := A) (E := E) (hp := hp) (gn := gn) (dr := dr) (st := st) (os := os) (env := env) (h₀ := h₀) (target := target) (body := body) (Q := Q) (I := I) (c := c) (keep := [(l, lo)]) (vs := vs)
    (fun i m nx => ∃ mu, nx = mu ++ G ∧ K i mu ∧ (∀ p ∈ mu ++ G, p.1 ≠ I) ∧ ∀ y, stored.contains y = false → m y = m₀ y) ?_ ?_ vs.length 0 m₀ (mu₀ ++ G) (Nat.zero_add _) ⟨mu₀, rfl, h0, fun p hp => Nat.ne_of_lt (hI p hp), fun _ _ => rfl⟩ ⟨List.mem_append_right _ hl, trivial⟩
  · rwa [List.drop_zero] at this
  · rintro i v m nx h tk it hv ⟨mu, rfl, hK, hoff, hm⟩ hs F N
    rw [fr hm] at F
    refine wpAny_mono (turn i v m mu h tk it hv hoff hK F (fun p hp => N p ?_)) (fun _ s₂ h₂ => wpAny_mono h₂ (fun f s₃ q => ?_) fun _ _ e => e) fun _ _ e => e
    · simp only [List.mem_append, List.mem_cons] at hp ⊢
      rcases hp with h | h | h <;> simp [h]
    have up : TurnEnd h₀ env.locals (K (i + 1)) ((I, it) :: G) [(I, it)] stored m₀ x gn dr os Q .next s₃ → UnrEndW h₀ env.locals ⟨h, gn, dr, tk, os⟩ [(I, it)] (fun m' n' => SubL [(l, lo)] n' ∧ ∃ mu, n' = mu ++ G ∧ K (i + 1) mu ∧ (∀ p ∈ mu ++ G, p.1 ≠ I) ∧ ∀ y, stored.contains y = false → m' y = m₀ y) s₃ := by
      rintro ⟨h', tk', m', mu', e, F', N', ho, hK', hm'⟩
      have hoff' : ∀ p ∈ mu' ++ G, p.1 ≠ I := by
        intro p hp
        rcases List.mem_append.mp hp with hp | hp
        · exact fun e => ho (I, it) (List.mem_singleton.mpr rfl) p.1 (List.mem_map_of_mem hp) e.symm
        · exact hoff p (List.mem_append_right _ hp)
      refine ⟨h', tk', m', mu' ++ G, e, F', fun p hp => N' p ?_, ?_, ⟨List.mem_append_right _ hl, trivial⟩, mu', rfl, hK', hoff', fun y hy => hm' y (fun q => by rw [q, hx] at hy; cases hy) hy⟩
      · simp only [List.mem_append, List.mem_cons, List.not_mem_nil, or_false] at hp ⊢
        rcases hp with h | h | h <;> simp [h]
      · intro p hp q hq
        rw [List.mem_singleton.mp hq]
        exact hoff' p hp
    cases f with
    | ret v => exact q
    | brk => exact q
    | next => exact up q
    | cont => exact up q
  · rintro m nx h tk ⟨mu, rfl, hK, _, hm⟩ F N
    exact done m mu h tk hK (by rw [← fr hm]; exact F) N
/-- a loop over a tuple of the ledger -/
theorem loopT {l : Addr} {vs : List Value} {m₀ : Str → Option Value} {mu₀ G : List (Addr × Obj)} (x : Str) (stored : List Str) (K : Nat → List (Addr × Obj) → Prop) (hx : stored.contains x = true)
    (hh : A.handled = none) (hl : (l, tupO vs) ∈ G) (F : Fr h₀ env.locals hp m₀) (N : News h₀ env.locals hp (mu₀ ++ G)) (h0 : K 0 mu₀)
    (turn : ∀ I i v (u : Str → Option Value) mu h tk it, vs[i]? = some v → (∀ p ∈ mu₀ ++ G, p.1 < I) → (∀ p ∈ mu ++ G, p.1 ≠ I) → K i mu → Fr h₀ env.locals h (fun y => if stored.contains y then u y else m₀ y) → News h₀ env.locals h (mu ++ ((I, it) :: G)) →
      wpAny (model prog w) A (assign target env v) (fun _ s₂ => wpAny (model prog w) A (execs body env) (TurnEnd h₀ env.locals (K (i + 1)) ((I, it) :: G) [(I, it)] stored m₀ x gn dr os Q) E s₂) E ⟨h, gn, dr, tk, os⟩)
    (done : ∀ (u : Str → Option Value) mu h tk, K vs.length mu → Fr h₀ env.locals h (fun y => if stored.contains y then u y else m₀ y) → News h₀ env.locals h (mu ++ G) → Q .next ⟨h, gn, dr, tk, os⟩) :
    wpAny (model prog w) A (pyIter (.ref l)) (fun it s₂ => TurnsAt prog w A h₀ env target body Q E it s₂) E ⟨hp, gn, dr, st, os⟩ :=
  iter_tupTurns hh F N (List.mem_append_right _ hl) rfl rfl fun I hI => loop_core x stored K hx hl hI h0 (fun i v u mu h tk it a b c d e => turn I i v u mu h tk it a hI b c d e) done
/-- the same over a list -/
theorem loopLT {l : Addr} {vs : List Value} {n : Nat} {m₀ : Str → Option Value} {mu₀ G : List (Addr × Obj)} (x : Str) (stored : List Str) (K : Nat → List (Addr × Obj) → Prop) (hx : stored.contains x = true)
    (hh : A.handled = none) (hl : (l, listOf vs.toArray n) ∈ G) (F : Fr h₀ env.locals hp m₀) (N : News h₀ env.locals hp (mu₀ ++ G)) (h0 : K 0 mu₀)
    (turn : ∀ I i v (u : Str → Option Value) mu h tk it, vs[i]? = some v → (∀ p ∈ mu₀ ++ G, p.1 < I) → (∀ p ∈ mu ++ G, p.1 ≠ I) → K i mu → Fr h₀ env.locals h (fun y => if stored.contains y then u y else m₀ y) → News h₀ env.locals h (mu ++ ((I, it) :: G)) →
      wpAny (model prog w) A (assign target env v) (fun _ s₂ => wpAny (model prog w) A (execs body env) (TurnEnd h₀ env.locals (K (i + 1)) ((I, it) :: G) [(I, it)] stored m₀ x gn dr os Q) E s₂) E ⟨h, gn, dr, tk, os⟩)
    (done : ∀ (u : Str → Option Value) mu h tk, K vs.length mu → Fr h₀ env.locals h (fun y => if stored.contains y then u y else m₀ y) → News h₀ env.locals h (mu ++ G) → Q .next ⟨h, gn, dr, tk, os⟩) :
    wpAny (model prog w) A (pyIter (.ref l)) (fun it s₂ => TurnsAt prog w A h₀ env target body Q E it s₂) E ⟨hp, gn, dr, st, os⟩ :=
  iter_listTurns hh F N (List.mem_append_right _ hl) rfl rfl fun I hI => loop_core x stored K hx hl hI h0 (fun i v u mu h tk it a b c d e => turn I i v u mu h tk it a hI b c d e) done
end

end
section
open PySem PySem.W PyProof.Rows PySem.Calls
theorem valueAt_none {K : Type} [DecidableEq K] {kvs : List (K × Value)} {k : K} (h : ∀ p ∈ kvs, p.1 ≠ k) : valueAt kvs k = none := by
  unfold valueAt
  rw [List.find?_eq_none.mpr (fun p hp => by simpa using h p hp)]
  rfl
theorem valueAt_mem {K : Type} [DecidableEq K] {kvs : List (K × Value)} {k : K} {v : Value} (h : valueAt kvs k = some v) : (k, v) ∈ kvs := by
  unfold valueAt at h
  cases e : kvs.find? (fun kv => decide (kv.1 = k)) with
  | none => rw [e] at h; cases h
  | some p =>
    rw [e] at h
    have h1 := List.mem_of_find?_eq_some e
    have h2 : p.1 = k := by simpa using List.find?_some e
    have h3 : p.2 = v := Option.some.inj h
    rw [← h2, ← h3]
    exact h1
theorem valueAt_isSome {K : Type} [DecidableEq K] {kvs : List (K × Value)} {k : K} (h : ∃ p ∈ kvs, p.1 = k) : (valueAt kvs k).isSome = true := by
  unfold valueAt
  obtain ⟨p, hp, e⟩ := h
  rw [Option.isSome_map]
  exact List.find?_isSome.mpr ⟨p, hp, by simpa using e⟩
theorem stored_mem {K : Type} [DecidableEq K] {kvs : List (K × Value)} {k : K} {v : Value} {p : K × Value} (h : p ∈ stored kvs k v) : p = (k, v) ∨ (p ∈ kvs ∧ p.1 ≠ k) := by
  unfold stored at h
  split at h
  · obtain ⟨q, hq, e⟩ := List.mem_map.mp h
    split at e
    · rename_i e'; left; rw [← e, e']
    · rename_i e'; right; rw [← e]; exact ⟨hq, e'⟩
  · rename_i ha
    rcases List.mem_append.mp h with h | h
    · right
      refine ⟨h, fun e => ha ?_⟩
      exact List.any_eq_true.mpr ⟨p, h, by simpa using e⟩
    · left; exact List.mem_singleton.mp h
theorem stored_has {K : Type} [DecidableEq K] {kvs : List (K × Value)} {k : K} {v : Value} {j : K} (h : (∃ p ∈ kvs, p.1 = j) ∨ j = k) : ∃ p ∈ stored kvs k v, p.1 = j := by
  by_cases e : j = k
  · unfold stored
    split
    · rename_i ha
      obtain ⟨p, hp, hk⟩ := List.any_eq_true.mp ha
      have hk' : p.1 = k := by simpa using hk
      exact ⟨(p.1, v), List.mem_map.mpr ⟨p, hp, by simp [hk']⟩, by rw [e]; exact hk'⟩
    · exact ⟨(k, v), by simp, e.symm⟩
  · obtain ⟨p, hp, hk⟩ := h.resolve_right e
    have hne : p.1 ≠ k := fun q => e (by rw [← hk, q])
    refine ⟨p, ?_, hk⟩
    unfold stored
    split
    · exact List.mem_map.mpr ⟨p, hp, by simp [hne]⟩
    · exact List.mem_append_left _ hp
theorem stored_len {K : Type} [DecidableEq K] (kvs : List (K × Value)) (k : K) (v : Value) : (stored kvs k v).length ≤ kvs.length + 1 := by
  unfold stored
  split <;> simp
theorem stored_asc {kvs : List (Int × Value)} {k : Int} {v : Value} (h : (kvs.map (·.1)).Pairwise (· < ·)) (h1 : (∃ p ∈ kvs, p.1 = k) ∨ ∀ p ∈ kvs, p.1 < k) : ((stored kvs k v).map (·.1)).Pairwise (· < ·) := by
  unfold stored
  split
  · rw [List.map_map]
    have e : kvs.map ((fun x : Int × Value => x.1) ∘ fun kv => if kv.1 = k then (kv.1, v) else kv) = kvs.map (·.1) := List.map_congr_left fun p _ => by
      show (if p.1 = k then (p.1, v) else p).1 = p.1
      split <;> rfl
    rw [e]
    exact h
  · rename_i ha
    have h2 : ∀ p ∈ kvs, p.1 < k := h1.resolve_left fun ⟨p, hp, e⟩ => ha (List.any_eq_true.mpr ⟨p, hp, by simpa using e⟩)
    rw [List.map_append, List.pairwise_append]
    refine ⟨h, List.pairwise_singleton .., fun a ha b hb => ?_⟩
    obtain ⟨p, hp, e⟩ := List.mem_map.mp ha
    rw [← e, List.mem_singleton.mp hb]
    exact h2 p hp
/-- all keys below n, each once -/
structure Tm (kvs : List (Int × Value)) (n : Int) : Prop where
  low : ∀ p ∈ kvs, 0 ≤ p.1 ∧ p.1 < n ∧ ∃ t, p.2 = .int 1 t
  has : ∀ k, 0 ≤ k → k < n → ∃ p ∈ kvs, p.1 = k
  len : (kvs.length : Int) ≤ n
  asc : (kvs.map (·.1)).Pairwise (· < ·)
theorem Tm.none {kvs : List (Int × Value)} {n : Int} (h : Tm kvs n) : valueAt kvs n = .none := valueAt_none fun p hp e => by
  have := (h.low p hp).2.1; omega
theorem Tm.next {kvs : List (Int × Value)} {n : Int} {t : Tok} (h : Tm kvs n) (h0 : 0 ≤ n) : Tm (stored kvs n (.int 1 t)) (n + 1) where
  low := fun p hp => by
    rcases stored_mem hp with e | ⟨hp, _⟩
    · rw [e]; exact ⟨h0, by show n < n + 1; omega, t, rfl⟩
    · obtain ⟨a, b, c⟩ := h.low p hp; exact ⟨a, by omega, c⟩
  has := fun k a b => stored_has (by
    by_cases e : k = n
    · exact .inr e
    · exact .inl (h.has k a (by omega)))
  len := by have := stored_len kvs n (.int 1 t); have := h.len; omega
  asc := stored_asc h.asc (.inr fun p hp => (h.low p hp).2.1)
theorem Tm.some {kvs : List (Int × Value)} {n k : Int} (h : Tm kvs n) (h0 : 0 ≤ k) (h1 : k < n) : ∃ t, valueAt kvs k = .some (.int 1 t) := by
  have := valueAt_isSome (h.has k h0 h1)
  obtain ⟨v, e⟩ := Option.isSome_iff_exists.mp this
  obtain ⟨_, _, t, ht⟩ := h.low _ (valueAt_mem e)
  exact ⟨t, by rw [e, ← ht]⟩
theorem key_mem {kvs : List (Int × Value)} {i : Nat} {k : Int} (h : (kvs.map (·.1))[i]? = some k) : ∃ p ∈ kvs, p.1 = k := by
  rw [List.getElem?_map] at h
  cases e : kvs[i]? with
  | none => rw [e] at h; cases h
  | some p => rw [e] at h; exact ⟨p, List.mem_of_getElem? e, Option.some.inj h⟩
/-- keys from 2 up, none left out, so many at most -/
structure Us (kvs : List (Int × Value)) (W : Int) (k : Nat) : Prop where
  low : ∀ p ∈ kvs, 2 ≤ p.1 ∧ p.1 < 2 + W
  down : ∀ p ∈ kvs, ∀ j, 2 ≤ j → j < p.1 → ∃ q ∈ kvs, q.1 = j
  len : kvs.length ≤ k
  asc : (kvs.map (·.1)).Pairwise (· < ·)
theorem Us.next {kvs : List (Int × Value)} {W n : Int} {k : Nat} {v : Value} (h : Us kvs W k) (h0 : 2 ≤ n) (h1 : n < 2 + W) (hall : ∀ j, 2 ≤ j → j < n → ∃ q ∈ kvs, q.1 = j) : Us (stored kvs n v) W (k + 1) where
  low := fun p hp => by
    rcases stored_mem hp with e | ⟨hp, _⟩
    · rw [e]; exact ⟨h0, h1⟩
    · exact h.low p hp
  down := fun p hp j a b => by
    rcases stored_mem hp with e | ⟨hp, _⟩
    · rw [e] at b; exact stored_has (.inl (hall j a b))
    · exact stored_has (.inl (h.down p hp j a b))
  len := by have := stored_len kvs n v; have := h.len; omega
  asc := by
    by_cases e : ∃ p ∈ kvs, p.1 = n
    · exact stored_asc h.asc (.inl e)
    · refine stored_asc h.asc (.inr fun p hp => ?_)
      have h3 : p.1 ≠ n := fun q => e ⟨p, hp, q⟩
      have h4 : ¬ n < p.1 := fun q => e (h.down p hp n h0 q)
      omega
theorem Us.nil (W : Int) : Us [] W 0 := ⟨fun _ h => (nomatch h), fun _ h => (nomatch h), Nat.le_refl _, .nil⟩
theorem Us.none {kvs : List (Int × Value)} {W n : Int} {k : Nat} (h : Us kvs W k) (h1 : 2 + W ≤ n) : valueAt kvs n = .none := valueAt_none fun p hp e => by
  have := (h.low p hp).2; omega
section
variable {prog : Program} {w : World} {K : Type} [DecidableEq K] {knd : KeyKind prog w K} {A : Around} {E : Value → Shared → Prop} {hp : Heap} {gn : Array GenState} {dr : Drawn} {st : Nat} {os : OsState} {h₀ : Heap} {L d : Addr} {news : List (Addr × Obj)} {o : Obj} {kvs : List (K × Value)} {k : K} {key dflt : Value}
theorem dgetN {Q : Value → Shared → Prop} (N : News h₀ L hp news) (hm : (d, o) ∈ news) (hd : o.IsDictOf knd kvs) (lo : (d == sysModules) = false) (hkey : knd.is k key = true) (hl : valueAt kvs k = none) (h : ∀ tk, Q dflt ⟨hp, gn, dr, tk, os⟩) :
    wpAny (model prog w) A (call (.builtin "dict.get") [.ref d, key, dflt]) Q E ⟨hp, gn, dr, st, os⟩ := kdg_get2 N hm hd lo hkey none hl (h _)
end
section
variable {prog : Program} {w : World} {K : Type} [DecidableEq K] {knd : KeyKind prog w K} {A : Around} {E : Value → Shared → Prop} {hp : Heap} {gn : Array GenState} {dr : Drawn} {st : Nat} {os : OsState} {h₀ : Heap} {L : Addr} {news : List (Addr × Obj)} {m : Str → Option Value}
theorem dictNew0 {env : Env} {pos : Pos} {Q : Value → Shared → Prop} (knd : KeyKind prog w K) (F : Fr h₀ L hp m) (N : News h₀ L hp news) (hbig : h₀.NoLimit)
    (h : ∀ (d : Addr) h' o, Fr h₀ L h' m → News h₀ L h' ((d, o) :: news) → (∀ p ∈ news, p.1 < d) → (d == sysModules) = false → o.IsDictOf knd [] → Q (.ref d) ⟨h', gn, dr, st, os⟩) :
    wpAny (model prog w) A (eval (.Dict [] [] pos) env) Q E ⟨hp, gn, dr, st, os⟩ := by
  obtain ⟨o, ho, hd⟩ := Heap.dictOf_iff.mp (Heap.DictOf.new (knd := knd) hp)
  exact wpAny_Dict_empty (h _ _ o (F.push _) (news_pushed F N (fun b x e => Heap.get?_push_of_some _ e) ho rfl) (fun p hp => Heap.lt_size (N p hp).1) (F.notModules (modules_low hbig)) hd)
end
theorem empty_dict {prog : Program} {w : World} {K : Type} [DecidableEq K] (knd : KeyKind prog w K) : (dictOf [] 0).IsDictOf knd ([] : List (K × Value)) := by
  have h := Heap.DictOf.new (knd := knd) (default : Heap)
  obtain ⟨o, ho, hd⟩ := Heap.dictOf_iff.mp h
  have e : (Heap.push default ({ cls := .type "dict", data := .dict #[] } : Obj)).get? (default : Heap).objs.size = some { cls := .type "dict", data := .dict #[] } := Heap.get?_push_size _ rfl
  rw [e] at ho
  cases ho
  exact hd

end
section
open PySem PySem.W PyProof.Rows PySem.Calls PySem.Spec
theorem minRun_le : ∀ (f n r : Nat), r ≤ 1 → minRun' f n r ≤ n + r
  | 0, _, _, _ => Nat.le_refl _
  | f + 1, n, r, h => by
    rw [minRun'_succ]
    split
    · exact Nat.le_refl _
    · have := minRun_le f (n / 2) (max r (n % 2)) (by omega)
      omega
section
variable {prog : Program} {w : World} {A : Around} {E : Value → Shared → Prop} {s : Shared} {κ : SortKind} {xs : Array Keyed}
/-- the keys are asked for their kind and answer κ, and no key stands below the one ahead of it -/
structure AscAt (prog : Program) (w : World) (A : Around) (κ : SortKind) (vs : List Value) (s : Shared) : Prop where
  kind : ∀ (E : Value → Shared → Prop) (Q : SortKind → Shared → Prop), 2 ≤ vs.length → Q κ s → wpAny (model prog w) A (keyKind' vs.toArray) Q E s
  step : ∀ (E : Value → Shared → Prop) (i : Nat) (x y : Value) (Q : Bool → Shared → Prop), vs[i]? = some x → vs[i + 1]? = some y → Q false s → wpAny (model prog w) A (keyLt' κ y x) Q E s
theorem pairs_at {vs : List Value} {i : Nat} {v : Value} (h : vs[i]? = some v) : (pairsOf vs)[i]? = some (v, v) := by
  unfold pairsOf
  rw [← Array.getElem?_toList]
  simp [List.getElem?_zip_eq_some, h]
theorem ltAt_asc {vs : List Value} (a : AscAt prog w A κ vs s) {st : SortSt} {i : Nat} {Q : Option Bool → SortSt → Prop} (hk : kindOf st = κ) (ha : arrOf st = pairsOf vs) (hi : i + 1 < vs.length) (h : Q (some false) st) :
    wpS (model prog w) A E s (ltAt' (i + 1) (i + 1 - 1)) Q st := by
  rw [Nat.add_sub_cancel, ltAt'_eq]
  refine wpS_bind (wpS_get ?_)
  show wpS _ _ _ _ (do let x ← elem' (arrOf st) (i + 1); let y ← elem' (arrOf st) i; lt' x y) Q st
  rw [elem'_eq, elem'_eq, ha, pairs_at (List.getElem?_eq_getElem hi), pairs_at (List.getElem?_eq_getElem (by omega : i < vs.length))]
  refine wpS_bind (wpS_pure (wpS_bind (wpS_pure ?_)))
  rw [lt'_eq]
  refine wpS_bind (wpS_get ?_)
  rw [hk]
  exact wpS_bind (wpS_lift (wpAny_attempt (a.step _ i _ _ _ (List.getElem?_eq_getElem _) (List.getElem?_eq_getElem hi) ⟨rfl, wpS_pure h⟩)))
theorem countRun_asc {vs : List Value} (a : AscAt prog w A κ vs s) {st : SortSt} {Q : Option Nat → SortSt → Prop} (hk : kindOf st = κ) (ha : arrOf st = pairsOf vs) (h1 : 1 ≤ vs.length) (h : Q (some vs.length) st) :
    wpS (model prog w) A E s (countRun' 0 vs.length) Q st := by
  rw [countRun0_eq]
  refine wpS_bind ?_
  unfold ascLoop
  refine wpS_forRange (I := fun x c st' => st' = st ∧ c = (none, x)) ?_ ?_ ⟨rfl, rfl⟩
  · rintro x c st' hx hn ⟨rfl, rfl⟩
    dsimp only
    obtain ⟨y, rfl⟩ : ∃ y, x = y + 1 := ⟨x - 1, by omega⟩
    refine wpS_bind (ltAt_asc a hk ha hn ?_)
    dsimp only
    rw [if_neg Bool.false_ne_true]
    exact wpS_pure ⟨rfl, rfl⟩
  · rintro c st' ⟨rfl, rfl⟩
    dsimp only
    rw [Nat.max_eq_right h1, if_pos (beq_self_eq_true _)]
    exact wpS_pure h
theorem sortRuns_asc {vs : List Value} (a : AscAt prog w A κ vs s) {st : SortSt} {Q : Unit → SortSt → Prop} (hk : kindOf st = κ) (ha : arrOf st = pairsOf vs) (hf : failedOf st = none) (hp0 : pendingOf st = #[]) (h2 : 2 ≤ vs.length)
    (h : ∀ st', arrOf st' = pairsOf vs → failedOf st' = none → Q () st') : wpS (model prog w) A E s sortRuns' Q st := by
  rw [sortRuns'_eq]
  refine wpS_bind (wpS_get ?_)
  dsimp only
  have hsz : (arrOf st).size = vs.length := by rw [ha, pairsOf_size]
  simp only [hsz]
  have hmin : ¬ vs.length < minRun' vs.length vs.length 0 := Nat.not_lt.mpr (minRun_le vs.length vs.length 0 (Nat.zero_le _))
  let st9 := setPending st ((pendingOf st).push (0, vs.length, 0))
  have hp : pendingOf st9 = #[(0, vs.length, 0)] := by show (pendingOf st).push _ = _; rw [hp0]; rfl
  refine wpS_bind (wpS_mono (wpS_forRange
    (I := fun x c st' => (x = 0 ∧ c = (none, 0) ∧ st' = st) ∨ (1 ≤ x ∧ c = (none, vs.length) ∧ st' = st9))
    (Q := fun c st' => c = (none, vs.length) ∧ st' = st9) ?step ?fin (.inl ⟨rfl, rfl, rfl⟩)) ?post)
  case fin =>
    rintro c st' (⟨hx, _, _⟩ | ⟨_, hc, hD⟩)
    · omega
    · exact ⟨hc, hD⟩
  case step =>
    rintro x c st' _ hx (⟨rfl, rfl, rfl⟩ | ⟨hx1, rfl, rfl⟩)
    · dsimp only
      rw [if_neg (by omega), Nat.sub_zero]
      refine wpS_bind (countRun_asc a hk ha (by omega) ?_)
      dsimp only
      rw [if_neg hmin]
      refine wpS_bind (wpS_get ?_)
      rw [show (pendingOf st').back? = none by rw [hp0]; rfl]
      dsimp only
      exact wpS_bind (wpS_modify (wpS_pure (.inr ⟨Nat.le_refl _, by rw [Nat.zero_add], rfl⟩)))
    · dsimp only
      rw [if_pos (Nat.le_refl _)]
      exact wpS_pure ⟨rfl, rfl⟩
  case post =>
    rintro c st' ⟨rfl, rfl⟩
    dsimp only
    refine wpS_bind (wpS_mono (wpS_forRange (I := fun _ c st'' => st'' = st9 ∧ c = (none, ())) (Q := fun c st'' => st'' = st9 ∧ c = (none, ())) ?_ (fun _ _ hh => hh) ⟨rfl, rfl⟩) ?_)
    · rintro x c st'' _ _ ⟨rfl, rfl⟩
      refine wpS_bind (wpS_get ?_)
      rw [if_pos (by rw [hp]; exact Nat.le_refl 1)]
      exact wpS_pure ⟨rfl, rfl⟩
    · rintro c st'' ⟨rfl, rfl⟩
      exact wpS_pure (h _ ha hf)
theorem pairs_snd (vs : List Value) : (pairsOf vs).map (·.2) = vs.toArray := by
  apply Array.toList_inj.mp
  rw [Array.toList_map, pairsOf_toList]
  exact List.map_snd_zip (Nat.le_refl _)
/-- the heap in which the keys are compared -/
def ordHeap (h : Heap) (a : Addr) (vs : List Value) : Heap := ((h.update a (Obj.mapSeq fun _ => #[])).push (seqObj "tuple" vs.toArray 0)).push (seqObj "list" #[] 0)
theorem ordHeap_old {h : Heap} {a b : Addr} {vs : List Value} {o : Obj} (hb : b ≠ a) (hg : h.get? b = some o) : (ordHeap h a vs).get? b = some o := by
  have hl := Heap.lt_size hg
  unfold ordHeap
  rw [Heap.get?_push_ne _ _ _ (by rw [size_push', Heap.size_update]; exact Nat.ne_of_lt (Nat.lt_succ_of_lt hl)), Heap.get?_push_ne _ _ _ (by rw [Heap.size_update]; exact Nat.ne_of_lt hl), Heap.get?_update_ne _ _ _ _ hb]
  exact hg
theorem listSort_asc {a : Addr} {vs : List Value} {n : Nat} {P : Fin → Shared → Prop} (ho : s.heap.get? a = some (seqObj "list" vs.toArray n))
    (as : AscAt prog w A κ vs { s with heap := ordHeap s.heap a vs }) (hz : vs.length ≤ 1000) (h : P (.done (.ret .none)) { s with heap := sortedHeap s.heap a vs vs.toArray }) :
    wpAny (model prog w) A (Builtin.«list.sort» ⟨[.ref a], []⟩) P E s := by
  have ha : a < s.heap.objs.size := Heap.lt_size ho
  have hsz : vs.toArray.size = vs.length := List.size_toArray ..
  rw [list_sort_plain]
  refine wpAny_bind (listItems_at ho rfl (wpAny_bind (listUpdate_at ho rfl ?_ (by rw [sizeLine_eq]; omega) (Nat.zero_le _))))
  obtain ⟨e1, ho1⟩ : ∃ e1, (s.heap.update a (Obj.mapSeq fun _ => #[])).get? a = some (seqObj "list" #[] e1) := ⟨_, get?_update_seq ho fun _ => #[]⟩
  refine wpAny_bind (seqEpoch_at ho1 rfl (wpAny_bind (wpAny_newTuple ?_ (by rw [sizeLine_eq]; show vs.length ≤ _; omega))))
  refine wpAny_bind (wpAny_newList (wpAny_holding ?_))
  have ho6 : (ordHeap s.heap a vs).get? a = some (seqObj "list" #[] e1) := by
    unfold ordHeap
    rw [Heap.get?_push_ne _ _ _ (by rw [size_push', Heap.size_update]; exact Nat.ne_of_lt (Nat.lt_succ_of_lt ha)), Heap.get?_push_ne _ _ _ (by rw [Heap.size_update]; exact Nat.ne_of_lt ha)]
    exact ho1
  show wpAny (model prog w) A _ P E { s with heap := ordHeap s.heap a vs }
  dsimp only
  have fin : ∀ st' : SortSt, arrOf st' = pairsOf vs → P (.done (.ret .none)) { s with heap := sortedHeap s.heap a vs ((arrOf st').map (·.2)) } := by
    intro st' e
    rw [e, pairs_snd]
    exact h
  have hfit : ∀ st' : SortSt, arrOf st' = pairsOf vs → ((arrOf st').map (·.2)).size ≤ sizeLine + 1 := by
    intro st' e
    rw [e, pairs_snd, hsz, sizeLine_eq]
    omega
  by_cases h2 : vs.toArray.size < 2
  · rw [if_pos h2, if_pos h2]
    refine wpAny_bind (wpAny_pure ?_)
    rw [StateT.run_pure]
    refine wpAny_bind (wpAny_pure ?_)
    refine wpAny_bind (seqEpoch_at ho6 rfl (wpAny_bind (listUpdate_at ho6 rfl ?_ (Nat.zero_le _) (hfit (SortSt.mk' general' (pairsOf vs) #[] 7 none) rfl))))
    simp only [bne_self_eq_false, Bool.false_eq_true, if_false]
    exact wpAny_pure (fin (SortSt.mk' general' (pairsOf vs) #[] 7 none) rfl)
  · rw [if_neg h2, if_neg h2]
    refine wpAny_bind (as.kind _ _ (by omega) ?_)
    refine wpAny_bind (wpAny_mono (sortRuns_asc as (st := SortSt.mk' κ (pairsOf vs) #[] 7 none)
      (Q := fun _ st' => arrOf st' = pairsOf vs ∧ failedOf st' = none) rfl rfl rfl rfl (by omega) fun st' a1 a2 => ⟨a1, a2⟩) ?_ fun _ _ e => e)
    rintro ⟨⟨⟩, st'⟩ s' ⟨rfl, hp, hf⟩
    dsimp only
    refine wpAny_bind (seqEpoch_at ho6 rfl (wpAny_bind (listUpdate_at ho6 rfl ?_ (Nat.zero_le _) (hfit st' hp))))
    rw [hf]
    simp only [bne_self_eq_false, Bool.false_eq_true, if_false]
    exact wpAny_pure (fin st' hp)
theorem AscAt.ints {vs : List Value} {ns : List Int} (hI : IntsAre vs ns) (hs : ns.Pairwise (· ≤ ·)) : AscAt prog w A oneType' vs s := by
  constructor
  · intro E Q h2 h
    have hkk : keyKind' vs.toArray = pure oneType' := by
      match vs, h2, hI with
      | [], h2, _ => simp at h2
      | [_], h2, _ => simp at h2
      | v₁ :: v₂ :: rest, _, hI => exact keyKind_ints hI
    rw [hkk]
    exact wpAny_pure h
  · intro E i x y Q hx hy h
    have hl := hI.length
    have l1 := (List.getElem?_eq_some_iff.mp hx).1
    have l2 := (List.getElem?_eq_some_iff.mp hy).1
    obtain ⟨t, e⟩ := hI.get i (ns[i]'(by omega)) (List.getElem?_eq_getElem (by omega))
    obtain ⟨u, e'⟩ := hI.get (i + 1) (ns[i + 1]'(by omega)) (List.getElem?_eq_getElem (by omega))
    cases hx.symm.trans e
    cases hy.symm.trans e'
    rw [keyLt'_oneType]
    refine oneLt_int ?_
    have := List.pairwise_iff_getElem.mp hs i (i + 1) (by omega) (by omega) (by omega)
    rw [decide_eq_false (Int.not_lt.mpr this)]
    exact h
theorem AscAt.faults {news : List (Addr × Obj)} {vs : List Value} {os : List Int} (hR : Rel2 (FaultIn news) vs os) (hg : ∀ p ∈ news, s.heap.get? p.1 = some p.2) (hs : os.Pairwise (· < ·)) : AscAt prog w A (tuples' true) vs s := by
  constructor
  · intro E Q h2 h
    have hT : ∃ fs, KatTups s.heap vs fs ∧ fs.length = vs.length ∧ ∀ v ∈ fs, ∃ t, v = .str (Str.ofString "wrong_param") t := by
      clear h2 hs
      induction hR with
      | nil => exact ⟨[], KatTups.nil, rfl, fun _ h => nomatch h⟩
      | cons r _ ih =>
        obtain ⟨fs, k, e, q⟩ := ih
        cases r with
        | mk a o t u m =>
        exact ⟨_ :: fs, KatTups.cons (hg _ m) rfl rfl rfl k, by simp [e], fun v hv => by
          rcases List.mem_cons.mp hv with rfl | hv
          · exact ⟨t, rfl⟩
          · exact q v hv⟩
    obtain ⟨fs, k, e, q⟩ := hT
    exact kat_kind (T := .type "str") k (by omega) (fun v hv => by
      obtain ⟨t, rfl⟩ := q v hv
      exact .now) (by decide) h
  · intro E i x y Q hx hy h
    obtain ⟨o, ho, r⟩ := hR.at i x hx
    obtain ⟨o', ho', r'⟩ := hR.at (i + 1) y hy
    have l1 := (List.getElem?_eq_some_iff.mp ho).1
    have l2 := (List.getElem?_eq_some_iff.mp ho').1
    have hlt := List.pairwise_iff_getElem.mp hs i (i + 1) l1 l2 (by omega)
    rw [(List.getElem?_eq_some_iff.mp ho).2, (List.getElem?_eq_some_iff.mp ho').2] at hlt
    cases r with
    | mk a o t u m =>
    cases r' with
    | mk a' o' t' u' m' =>
    refine kat_lt (hg _ m') rfl (hg _ m) rfl (kat_cons (wpAny_eqBool_str ?_))
    rw [decide_eq_true rfl]
    refine kat_yes (kat_cons (wpAny_eqBool_int ?_))
    rw [beq_eq_false_iff_ne.mpr (by omega : o' ≠ o)]
    refine kat_no (kat_one _ _ (lt_int ?_))
    rw [decide_eq_false (by omega)]
    exact h
end
section
variable {prog : Program} {w : World} {A : Around} {E : Value → Shared → Prop} {hp : Heap} {gn : Array GenState} {dr : Drawn} {st : Nat} {os : OsState} {h₀ : Heap} {L : Addr} {m : Str → Option Value} {news : List (Addr × Obj)} {κ : SortKind}
theorem sortB {B : Addr} {vs : List Value} {n : Nat} {Q : Value → Shared → Prop} (F : Fr h₀ L hp m) (N : News h₀ L hp ((B, listOf vs.toArray n) :: news)) (hne : ∀ p ∈ news, p.1 ≠ B) (hz : vs.length ≤ 1000)
    (as : (∀ p ∈ news, (ordHeap hp B vs).get? p.1 = some p.2) → AscAt prog w A.in1 κ vs ⟨ordHeap hp B vs, gn, dr, st, os⟩)
    (h : ∀ h' e, Fr h₀ L h' m → News h₀ L h' ((B, listOf vs.toArray e) :: news) → Q .none ⟨h', gn, dr, st, os⟩) :
    wpAny (model prog w) A (call (.builtin "list.sort") [.ref B]) Q E ⟨hp, gn, dr, st, os⟩ := by
  obtain ⟨hb, hbL, hb0⟩ := N (B, _) (.head _)
  refine wpAny_call_entry slot_list_sort ⟨_, hb, rfl⟩ entry_list_sort (listSort_asc hb (as fun p hp' => ordHeap_old (hne p hp') (N p (.tail _ hp')).1) hz ⟨_, rfl, ?_⟩) (args_list_sort _)
  obtain ⟨e, he⟩ := sortedHeap_at hb (out := vs.toArray)
  obtain ⟨oL, a1, a2, hL, a3⟩ := F.ns
  have old : ∀ b o, b ≠ B → hp.get? b = some o → (sortedHeap hp B vs vs.toArray).get? b = some o := fun b o hbB q => (sortedHeap_old hbB (Heap.lt_size q)).trans q
  refine h _ e ⟨⟨oL, a1, a2, old _ _ (Ne.symm hbL) hL, a3⟩, fun b o q => old b o (fun r => by rw [r, hb0] at q; cases q) (F.keep b o q), F.above⟩ fun p hp' => ?_
  rcases List.mem_cons.mp hp' with rfl | hp'
  · exact ⟨he, hbL, hb0⟩
  · have z := N p (.tail _ hp')
    exact ⟨old _ _ (hne p hp') z.1, z.2⟩
theorem sortedD {d : Addr} {o : Obj} {kvs : List (Int × Value)} {Q : Value → Shared → Prop} (hh : A.handled = none) (F : Fr h₀ L hp m) (N : News h₀ L hp news) (hm : (d, o) ∈ news) (hd : o.IsDictOf (PySem.intKind prog w) kvs) (lo : (d == sysModules) = false)
    (hs : (kvs.map (·.1)).Pairwise (· < ·)) (hz : kvs.length ≤ 1000)
    (h : ∀ B h' tk vs e, Fr h₀ L h' m → News h₀ L h' ((B, listOf vs.toArray e) :: news) → (∀ q ∈ news, q.1 < B) → IntsAre vs (kvs.map (·.1)) → Q (.ref B) ⟨h', gn, dr, tk, os⟩) :
    wpAny (model prog w) A (call (.builtin "sorted") [.ref d]) Q E ⟨hp, gn, dr, st, os⟩ := by
  obtain ⟨ep, hat⟩ := (kda_dict (s := ⟨hp, gn, dr, st, os⟩) N hm hd).dictAt
  refine kdu_sorted (kdl_dict (knd := PySem.intKind prog w) (kvs := kvs) (ep := ep) lo) hh F N hat (kdl_size (by omega)) fun B h' tk vs F' N' l1 hl hv => ?_
  have hI : IntsAre vs (kvs.map (·.1)) := by
    refine kdy_ints (by rw [hl, List.length_map]) fun j v hj => ?_
    obtain ⟨k, x, hx, hk⟩ := hv j v hj
    obtain ⟨t, e⟩ := PyProof.V.Flat.int_inv (kdl_flat_int hk)
    exact ⟨k, by rw [List.getElem?_map, hx]; rfl, t, e⟩
  exact sortB F' N' (fun p hp => Nat.ne_of_lt (l1 p hp)) (by rw [hl]; exact hz) (fun _ => AscAt.ints hI (hs.imp fun h => Int.le_of_lt h)) fun h9 e F9 N9 => h B h9 tk vs e F9 N9 l1 hI
end

end
section
open PySem PySem.W PyProof.Rows
theorem z3 {n i m j a b : Nat} (h : n ≤ 70 * i + j) (h2 : i < m) (h3 : m ≤ 4) (h4 : j < a) (e : a = b) (h5 : b ≤ 70) : n ≤ 1000 := by omega
theorem z4 {n m : Nat} {W : Int} (h : (n : Int) ≤ 2 + W + m) (h3 : m ≤ 4) (h4 : W ≤ 70) : n ≤ 1000 := by omega
theorem z5 {n m : Nat} (h : n ≤ 70 * m) (h3 : m ≤ 4) : n ≤ 1000 := by omega
theorem tm_start {t u : Tok} : Tm [(0, .int 1 t), (1, .int 1 u)] 2 where
  low := by
    intro p hp
    simp only [List.mem_cons, List.not_mem_nil, or_false] at hp
    rcases hp with h | h <;> rw [h]
    · exact ⟨Int.le_refl _, by show (0 : Int) < 2; decide, t, rfl⟩
    · exact ⟨by show (0 : Int) ≤ 1; decide, by show (1 : Int) < 2; decide, u, rfl⟩
  has := fun k a b => by
    have : k = 0 ∨ k = 1 := by omega
    rcases this with h | h
    · exact ⟨_, .head _, h.symm⟩
    · exact ⟨_, .tail _ (.head _), h.symm⟩
  len := Int.le_refl _
  asc := .cons (fun a h => by rw [List.mem_singleton.mp h]; show (0 : Int) < 1; decide) (.cons (fun _ h => nomatch h) .nil)
def NFI (prog : Program) (w : World) (W : Int) (ud td fa : Addr) (n : Int) (k j : Nat) (mu : List (Addr × Obj)) : Prop :=
  ∃ o1 o2 k1 k2, mu = [(ud, o2), (td, o1), (fa, listOf ([] : List Value).toArray 0)] ∧ o1.IsDictOf (PySem.intKind prog w) k1 ∧ Tm k1 n ∧ o2.IsDictOf (PySem.intKind prog w) k2 ∧ Us k2 W k ∧ ∀ j' : Nat, j' < j → ∃ q ∈ k2, q.1 = 2 + (j' : Int) % W
theorem NFI.off {prog : Program} {w : World} {W : Int} {ud td fa I : Addr} {it : Obj} {n : Int} {k j : Nat} {mu : List (Addr × Obj)} (h : NFI prog w W ud td fa n k j mu) (h1 : ud < I) (h2 : td < I) (h3 : fa < I) : OwnOff [(I, it)] (mu.map (·.1)) := by
  obtain ⟨_, _, _, _, rfl, _⟩ := h
  intro p hp b hb
  rw [List.mem_singleton.mp hp]
  simp only [List.map_cons, List.map_nil, List.mem_cons, List.not_mem_nil, or_false] at hb
  rcases hb with h | h | h <;> rw [h]
  · exact Nat.ne_of_gt h1
  · exact Nat.ne_of_gt h2
  · exact Nat.ne_of_gt h3
theorem mod_le_self {W : Int} {j : Nat} (hW : 1 ≤ W) : (j : Int) % W ≤ j := by
  by_cases h : (j : Int) < W
  · rw [Int.emod_eq_of_lt (by omega) h]; exact Int.le_refl _
  · have := Int.emod_lt_of_pos (j : Int) (show 0 < W by omega); omega
theorem us_all {kvs : List (Int × Value)} {W : Int} {j : Nat} (h : ∀ j' : Nat, j' < j → ∃ q ∈ kvs, q.1 = 2 + (j' : Int) % W) (hW : 1 ≤ W) (h1 : (j : Int) % W ≤ j) (h2 : (j : Int) % W < W) {i : Int} (a : 2 ≤ i) (b : i < 2 + (j : Int) % W) : ∃ q ∈ kvs, q.1 = i := by
  obtain ⟨q, hq, e⟩ := h (i - 2).toNat (by omega)
  refine ⟨q, hq, ?_⟩
  rw [e, Int.toNat_of_nonneg (by omega), Int.emod_eq_of_lt (by omega) (by omega)]
  omega
theorem us_more {kvs : List (Int × Value)} {W : Int} {j : Nat} {v : Value} (h : ∀ j' : Nat, j' < j → ∃ q ∈ kvs, q.1 = 2 + (j' : Int) % W) {j' : Nat} (hj : j' < j + 1) : ∃ q ∈ stored kvs (2 + (j : Int) % W) v, q.1 = 2 + (j' : Int) % W := by
  by_cases e : j' = j
  · subst e; exact stored_has (.inr rfl)
  · exact stored_has (.inl (h j' (by omega)))
section
variable {prog : Program} {w : World} {p : Program} {loose : List Str} {mean : ExcName → Option Value} {mg mb : Str → Option Value} {news : List (Addr × Obj)}
set_option maxRecDepth 100000 in
set_option maxHeartbeats 8000000 in
theorem nf_con (x ca : Addr) (count W : Int) (bits : List Int) (cvs : List Value) (ds : List CellD) (hn : NetIn news x count bits ca cvs) (hc : Rel2 (CellIn news) cvs ds) (hl : ds.length ≤ 4) (ho : ∀ c ∈ ds, c.Ok W)
    (hW : (bits.length : Int) = W) (hW1 : 1 ≤ W) (hW2 : W ≤ 70) (hb : ∀ (j : Nat) b, bits[j]? = some b → b = 2 + j) (hout : ∀ (i : Nat) c, ds[i]? = some c → c.out = 2 + W + i) (hcount : count = 2 + W + ds.length) :
    Con prog w p loose mean mg mb 4 194 [.ref x] news (fun r nx => ∃ fa n, r = .ref fa ∧ nx = (fa, listOf ([] : List Value).toArray n) :: news) := by
  w_top off; (have hfill : PySem.Challenge.rw_pq0453_01 = PySem.Challenge.rw_pq0453_01 ∧ hd.heap_39 = hd.heap_39 := (by k_fill; exact ⟨rfl, rfl⟩)); clear hfill
  k_with_none
  k_with "storeName" => (k_here; k_dflt (refine' storeL ?F ?N ?_ ?a ?b; (case F => k_asm); (case N => k_asm); (case a => rfl); (case b => rfl); k_whole; intro h' tk' mm' F' N'))
  k_with "pyIter ref" => ((with_reducible show wpAny _ _ (pyIter (Value.ref _)) (fun it s₂ => LoopAtV _ _ _ _ _ _ _ _ _ it s₂) _ _); refine Stop.out ?_)
  k_with "pyIter ref" => ((with_reducible show wpAny _ _ (pyIter (Value.ref _)) (fun it s₂ => TurnsAt _ _ _ _ _ _ _ _ _ it s₂) _ _); refine Stop.out ?_)
  k_with "exec For Tuple Attribute cons nil" => (k_here; (rename Fr _ _ _ _ => lF'); (with_unfolding_all refine' For_turns lF' ?_; k_whole))
  k_with "exec For Name Name cons nil" => (k_here; (rename Fr _ _ _ _ => lF'); (with_unfolding_all refine' For_turns lF' ?_; k_whole))
  k_with "exec For Name Attribute cons nil" => (k_here; (rename Fr _ _ _ _ => lF'); (with_unfolding_all refine' For_turns lF' ?_; k_whole))
  k_with "exec For Name Subscript cons nil" => (k_here; (rename Fr _ _ _ _ => lF'); (with_unfolding_all refine' For_turns lF' ?_; k_whole))
  k_with "exec For Name Call cons nil" => (k_here; (rename Fr _ _ _ _ => lF'); (with_unfolding_all refine' For_turns lF' ?_; k_whole))
  k_with "subscriptTail" => (k_here; (with_reducible show wpAny _ _ (subscriptTail _ _ (Value.ref _) (Value.int _ _)) _ _ _); k_dflt (refine' itemT ?k1 ?k2 ?k3 ?k4 ?k5 ?_; (case k1 => k_asm); (case k2 => k_mem); (case k3 => decide); (case k4 => decide); (case k5 => exact rfl); k_whole))
  k_with "subscriptTail" => (k_here; (with_reducible show wpAny _ _ (subscriptTail _ _ (Value.ref _) (Value.int _ _)) _ _ _); k_dflt (refine' kda_item (knd := PySem.intKind _ _) ?N ?m ?d (intKind_is _ _ _ _) ?l ?_; (case N => k_asm); (case m => k_mem); (case d => k_asm); (case l => assumption)))
  k_with "compareOp NotIn int ref" => (k_here; k_dflt (refine' kdg_notin (knd := PySem.intKind _ _) ?N ?m ?d ?lo (intKind_is _ _ _ _) _ ?l ?_; (case N => k_asm); (case m => k_mem); (case d => k_asm); (case lo => assumption); (case l => assumption)))
  k_with "call builtin:sorted" => (refine Stop.out ?_)
  k_with "newList" => (refine Stop.out ?_)
  k_with "eval Dict" => (refine Stop.out ?_)
  k_with "eval Dict nil nil" => (refine Stop.out ?_)
  k_with "setItem ref int" => (k_here; k_dflt (refine' kda_set (knd := PySem.intKind _ _) ?F ?N ?U ?d (intKind_is _ _ _ _) ?z ?_; (case F => k_asm); (case N => k_asm); (case U => k_updF); (case d => k_asm); (case z => first | exact zbig1 (by assumption) (by decide) | exact zbig2 (by assumption) (by assumption) (by assumption) (by decide) | exact zbig3 (by assumption) (by assumption) (by assumption) (by assumption) (by decide) | exact zbig4 (by assumption) (by assumption) (by assumption) (by assumption) | (rw [sizeLine_eq]; omega))); intro h' o' F' N' hd'; (try dsimp only at N'))
  k_with "call builtin:dict.get" => (k_here; k_dflt (refine' dgetN (knd := PySem.intKind _ _) ?N ?m ?d ?lo (intKind_is _ _ _ _) ?l ?_; (case N => k_asm); (case m => k_mem); (case d => k_asm); (case lo => assumption); (case l => assumption)); intro tk')
  k_with "getMethod ref" => (k_here; k_dflt (refine' kdg_method (knd := PySem.intKind _ _) ?N ?m ?d ?_; (case N => k_asm); (case m => k_mem); (case d => k_asm); k_whole))
  (unfold Con; intro dp un gd cn cs a ccd cl outer A₀ base h₀ L m sheap sgens sdrawn stoks sos Q E B F X N T hk hdp hun hret; refine wpAny_call ?_; k_dflt (refine' code_defL ?k1 ?k2 ?k3 ?k4 ?k5 ?kA ?kF ?kK ?k6 ?k7 ?k8 ?k9 ?kB ?_ ?c2 ?c3 ?c4 ?c5; (case kA => exact rfl); (case kF => exact rfl); (case kK => assumption); (case k1 => k_asm); (case k2 => k_asm); (case k3 => k_asm); (case k4 => k_asm); (case k5 => k_asm); (case k6 => k_is); (case k7 => k_is); (case k8 => first | exact Nat.lt_of_le_of_lt (Nat.le_add_right _ _) hdp | ktr_room); (case k9 => exact BindsTo.of_eq rfl); (case c5 => decide); (case kB => exact locs rfl); (case c2 => exact rfl); (case c3 => exact rfl); (case c4 => exact rfl); k_whole; intro g' L' h' tk' en' An' mm' FG' F' N' B' X' T' qq' ee'; (try dsimp only); (try k_lift B')))
  cases hn
  k_steps
  refine Stop.mk ?_
  (refine' newList_K ?F ?N ?_; (case F => k_asm); (case N => k_asm))
  intro fa h1 F1 N1 lfa
  k_steps
  refine Stop.mk ?_
  (refine' kdn_eval (knd := PySem.intKind _ _) ?F ?N ?b ?a ?l ?e ?n ?_; (case F => k_asm); (case N => k_asm); (case b => exact Top.nolimit (by k_asm)); (case a => rfl); (case l => rfl); (case e => exact List.cons_ne_nil _ _); (case n => exact Nat.le_of_ble_eq_true rfl))
  intro td h2 o2 F2 N2 ltd lotd hdt
  k_steps
  refine Stop.mk ?_
  (refine' dictNew0 (PySem.intKind _ _) ?F ?N ?b ?_; (case F => k_asm); (case N => k_asm); (case b => exact Top.nolimit (by k_asm)))
  intro ud h3 o3 F3 N3 lud loud hdu
  k_steps
  rename Obj.IsDictOf _ _ (intKeyPairs _) => hdt2
  obtain ⟨kt, hdt3, hT⟩ : ∃ kt, Obj.IsDictOf (PySem.intKind prog w) _ kt ∧ Tm kt 2 := ⟨_, hdt2, tm_start⟩
  have q1 : fa < td := ltd _ List.mem_cons_self
  have q2 : td < ud := lud _ List.mem_cons_self
  have q3 : fa < ud := lud _ (.tail _ (.head _))
  have n1 : ∀ p ∈ news, p.1 ≠ fa := fun p hp => Nat.ne_of_lt (lfa p hp)
  have n2 : ∀ p ∈ news, p.1 ≠ td := fun p hp => Nat.ne_of_lt (ltd p (.tail _ hp))
  have n3 : ∀ p ∈ news, p.1 ≠ ud := fun p hp => Nat.ne_of_lt (lud p (.tail _ (.tail _ hp)))
  clear F1 N1 F2 N2 F3 N3 lfa ltd lud hdt hdt2
  refine Stop.mk ?_
  refine loopLT (mu₀ := [(ud, o3), (td, _), (fa, listOf ([] : List Value).toArray 0)]) (G := news) (Str.ofString "net") [(Str.ofString "net"), Str.ofString "bits", Str.ofString "name"] (fun i mu => NFI prog w W ud td fa (2 + i * W) 0 0 mu) rfl rfl (by assumption) (by assumption) N'
    ⟨_, o3, kt, [], rfl, hdt3, by simpa using hT, hdu, Us.nil W, fun _ h => nomatch h⟩ ?_ ?_
  · rintro I1 i v u mu h tk it hv hI1 hoff hI9 F2 N2
    refine genA fun QQ hQQ => ?_
    obtain ⟨o1, o2, k1, k2, rfl, hd1, hT1, hd2, hU2, hJ2⟩ := hI9
    obtain ⟨rfl, rfl⟩ : i = 0 ∧ v = _ := by
      cases i with
      | zero => exact ⟨rfl, (Option.some.inj hv).symm⟩
      | succ i => simp at hv
    have r1 : ud < I1 := hI1 _ List.mem_cons_self
    have r2 : td < I1 := hI1 _ (.tail _ (.head _))
    have r3 : fa < I1 := hI1 _ (.tail _ (.tail _ (.head _)))
    clear N'
    simp only [List.cons_append, List.nil_append] at N2
    (try dsimp only)
    (try k_fold)
    k_steps
    rename News _ _ _ _ => N3
    refine Stop.mk ?_
    refine loopLT (mu₀ := [(ud, o2), (td, o1), (fa, listOf ([] : List Value).toArray 0)]) (G := (I1, it) :: news) (Str.ofString "net") [(Str.ofString "net")] (fun i mu => NFI prog w W ud td fa (2 + i) 0 0 mu) rfl rfl (.tail _ (by assumption)) (by assumption) N3
      ⟨o1, o2, k1, k2, rfl, hd1, by simpa using hT1, hd2, hU2, fun _ h => nomatch h⟩ ?_ ?_
    · clear N3 hT1 hU2 hd1 hd2 hJ2
      rintro I2 j v u mu h tk it2 hv hI2 hoff2 hI9 F2 N2
      refine genA fun QQ hQQ => ?_
      obtain ⟨o1, o2, k1, k2, rfl, hd1, hT1, hd2, hU2, hJ2⟩ := hI9
      obtain ⟨b, t, rfl, hbj⟩ := IntsAre.at (by assumption) j v hv
      have hbb := hb j b hbj
      have hjl : j < bits.length := (List.getElem?_eq_some_iff.mp hbj).1
      subst hbb
      have hnone := hT1.none
      have hlen := z1 hT1.len hjl hW hW2
      have r4 : ud < I2 := hI2 _ List.mem_cons_self
      have r5 : td < I2 := hI2 _ (.tail _ (.head _))
      have r6 : fa < I2 := hI2 _ (.tail _ (.tail _ (.head _)))
      simp only [List.cons_append, List.nil_append] at N2
      (try dsimp only)
      (try k_fold)
      k_steps
      have hnew : NFI prog w W ud td fa (2 + ((j + 1 : Nat) : Int)) 0 0 [(ud, o2), (td, o'), (fa, listOf ([] : List Value).toArray 0)] :=
        ⟨o', o2, _, k2, rfl, hd', (show (2 : Int) + ((j + 1 : Nat) : Int) = 2 + (j : Int) + 1 from cnt1) ▸ hT1.next nn2, hd2, hU2, hJ2⟩
      exact TE.to hQQ [(ud, o2), (td, o'), (fa, _)] F' N' (hnew.off r4 r5 r6) hnew fr_base
    · rintro u mu h tk hmu F2 N2
      have hlb := IntsAre.length ‹IntsAre _ bits›
      rw [hlb, hW, e1w] at hmu
      (try dsimp only)
      (try k_fold)
      k_steps
      exact TE.to hQQ mu (by assumption) N2 (hmu.off r1 r2 r3) hmu (fr_sub (by decide) (fr_step (by decide) (fr_step (by decide) fr_base0)))
  · rintro u mu h tk hI9 F2 N2
    refine hide fun P9 hX9 => ?_
    obtain ⟨o1, o2, k1, k2, rfl, hd1, hT1, hd2, hU2, hJ2⟩ := hI9
    refine hX9 ?_
    clear hX9
    clear N'
    simp only [List.cons_append, List.nil_append] at N2
    (try dsimp only)
    (try k_fold)
    k_steps
    refine Stop.mk ?_
    refine loopLT (mu₀ := [(ud, o2), (td, o1), (fa, listOf ([] : List Value).toArray 0)]) (G := news) (Str.ofString "cell") [(Str.ofString "cell"), Str.ofString "net"] (fun i mu => NFI prog w W ud td fa (2 + W + i) (70 * i) 0 mu) rfl rfl (by assumption) (by assumption) N2
      ⟨o1, o2, k1, k2, rfl, hd1, by simpa using hT1, hd2, hU2, fun _ h => nomatch h⟩ ?_ ?_
    · clear hT1 hU2 hd1 hd2 hJ2
      rintro I1 i v u mu h tk it hv hI1 hoff hI9 F2 N2
      refine genA fun QQ hQQ => ?_
      obtain ⟨o1, o2, k1, k2, rfl, hd1, hT1, hd2, hU2, hJ2⟩ := hI9
      obtain ⟨c, hci, hcc⟩ := hc.at i v hv
      have hok := ho c (List.mem_of_getElem? hci)
      have hco := hout i c hci
      have hil : i < ds.length := (List.getElem?_eq_some_iff.mp hci).1
      cases hcc with
      | mk ca' ai kind out ins pd kt' ot' pv ivs m1 m2 hi hp =>
      have hco' : out = 2 + W + i := hco
      subst hco'
      have hnone := hT1.none
      have hlen := z2 hT1.len hil hl hW2
      have r1 : ud < I1 := hI1 _ List.mem_cons_self
      have r2 : td < I1 := hI1 _ (.tail _ (.head _))
      have r3 : fa < I1 := hI1 _ (.tail _ (.tail _ (.head _)))
      simp only [List.cons_append, List.nil_append] at N2
      (try dsimp only)
      (try k_fold)
      k_steps
      refine Stop.mk ?_
      refine loopT (mu₀ := [(ud, o2), (td, o'), (fa, listOf ([] : List Value).toArray 0)]) (G := (I1, it) :: news) (Str.ofString "net") [(Str.ofString "net")] (fun j mu => NFI prog w W ud td fa (2 + W + ((i + 1 : Nat) : Int)) (70 * i + j) j mu) rfl rfl (.tail _ (by assumption)) (by assumption) N'
        ⟨o', o2, _, k2, rfl, hd', (show 2 + W + ((i + 1 : Nat) : Int) = 2 + W + (i : Int) + 1 from cnt1) ▸ hT1.next (nn3 hW1), hd2, hU2, fun _ h => nomatch h⟩ ?_ ?_
      · clear hT1 hU2 hd1 hd2 hJ2 hnone hlen
        have hil2 := hok.1
        have hiv := hi.length
        dsimp only at hil2
        rintro I2 j v u mu h tk it2 hv hI2 hoff2 hI9 F2 N2
        refine genA fun QQ hQQ => ?_
        obtain ⟨o1, o2, k1, k2, rfl, hd1, hT1, hd2, hU2, hJ2⟩ := hI9
        obtain ⟨b, t, rfl, hbj⟩ := hi.at j v hv
        have hbb := hok.2.1 j b hbj
        (try dsimp only at hbb)
        subst hbb
        have hm0 := Int.emod_nonneg (j : Int) (w_ne hW1)
        have hm1 := Int.emod_lt_of_pos (j : Int) (w_pos hW1)
        have hm2 : (j : Int) % W ≤ j := mod_le_self hW1
        have hjl : j < ivs.length := (List.getElem?_eq_some_iff.mp hv).1
        have hlen := z3 hU2.len hil hl hjl hiv hil2
        have r4 : ud < I2 := hI2 _ List.mem_cons_self
        have r5 : td < I2 := hI2 _ (.tail _ (.head _))
        have r6 : fa < I2 := hI2 _ (.tail _ (.tail _ (.head _)))
        simp only [List.cons_append, List.nil_append] at N2
        (try dsimp only)
        (try k_fold)
        k_steps
        have hnew : NFI prog w W ud td fa (2 + W + ((i + 1 : Nat) : Int)) (70 * i + (j + 1)) (j + 1) [(ud, o'), (td, o1), (fa, listOf ([] : List Value).toArray 0)] :=
          ⟨o1, o', k1, _, rfl, hd1, hT1, hd', hU2.next (m_lo hm0) (m_hi hm1) (fun i a b => us_all hJ2 hW1 hm2 hm1 a b), fun j' h => us_more hJ2 h⟩
        exact TE.to hQQ [(ud, o'), (td, o1), (fa, _)] F' N' (hnew.off r4 r5 r6) hnew fr_base
      · have hil2 := hok.1
        have hiv := hi.length
        dsimp only at hil2
        rintro u mu h tk hI9 F2 N2
        refine hide fun P9 hX9 => ?_
        obtain ⟨o1, o2, k1, k2, rfl, hd1, hT1, hd2, hU2, hJ2⟩ := hI9
        refine hX9 ?_
        clear hX9
        have hnew : NFI prog w W ud td fa (2 + W + ((i + 1 : Nat) : Int)) (70 * (i + 1)) 0 [(ud, o2), (td, o1), (fa, listOf ([] : List Value).toArray 0)] :=
          ⟨o1, o2, k1, k2, rfl, hd1, hT1, hd2, ⟨hU2.low, hU2.down, l70 hU2.len hiv hil2, hU2.asc⟩, fun _ h => nomatch h⟩
        (try dsimp only)
        (try k_fold)
        k_steps
        exact TE.to hQQ [(ud, o2), (td, o1), (fa, _)] F2 N2 (hnew.off r1 r2 r3) hnew (fr_sub (by decide) (fr_step (by decide) fr_base0))
    · rintro u mu h tk hI9 F2 N2
      refine hide fun P9 hX9 => ?_
      obtain ⟨o1, o2, k1, k2, rfl, hd1, hT1, hd2, hU2, hJ2⟩ := hI9
      refine hX9 ?_
      clear hX9
      simp only [List.cons_append, List.nil_append] at N2
      (try dsimp only)
      (try k_fold)
      k_steps
      refine Stop.mk ?_
      refine loopLT (mu₀ := [(ud, o2), (td, o1), (fa, listOf ([] : List Value).toArray 0)]) (G := news) (Str.ofString "net") [(Str.ofString "net"), Str.ofString "bits", Str.ofString "name"] (fun _ mu => mu = [(ud, o2), (td, o1), (fa, listOf ([] : List Value).toArray 0)]) rfl rfl (by assumption) (by assumption) N2 rfl ?_ ?_
      · intro _ i v _ _ _ _ _ hv
        simp at hv
      · rintro u mu h tk rfl F3 N3
        clear N2
        simp only [List.cons_append, List.nil_append] at N3
        (try dsimp only)
        (try k_fold)
        k_steps
        have e9 := hc.length
        rw [e9] at hT1 hU2
        have hasc := hT1.asc
        have hulen := z5 hU2.len hl
        refine Stop.mk ?_
        refine sortedD rfl lF' N3 (.tail _ (.head _)) hd1 lotd hasc (z4 hT1.len hl hW2) ?_
        clear lF' N3
        intro B h' tk vs e F4 N4 lB hvs
        (try dsimp only)
        k_steps
        refine Stop.mk ?_
        refine loopLT (mu₀ := []) (G := _) (Str.ofString "net") [(Str.ofString "net")] (fun _ mu => mu = []) rfl rfl List.mem_cons_self F4 N4 rfl ?_ ?_
        · rintro I1 i v u mu h tk it hv hI1 hoff rfl F5 N5
          refine genA fun QQ hQQ => ?_
          clear N4 lB
          obtain ⟨k, t, rfl, hk⟩ := hvs.at i v hv
          obtain ⟨p, hp, rfl⟩ := key_mem hk
          obtain ⟨hk0, hk1, _⟩ := hT1.low p hp
          obtain ⟨t', hsome⟩ := hT1.some hk0 hk1
          simp only [List.nil_append] at N5
          (try dsimp only)
          (try k_fold)
          k_steps
          exact TE.to hQQ [] F' N' (fun _ _ _ h => nomatch h) rfl (fr_step (by decide) fr_base0)
        · rintro u mu h tk rfl F5 N5
          clear N4 F4 hvs
          simp only [List.nil_append] at N5
          (try dsimp only)
          (try k_fold)
          k_steps
          refine Stop.mk ?_
          refine sortedD rfl (by assumption) N5 (.tail _ (.head _)) hd2 loud hU2.asc (by first | exact hulen | omega) ?_
          clear N5 lB
          intro B2 h' tk vs e2 F4 N4 lB hvs
          (try dsimp only)
          k_steps
          refine Stop.mk ?_
          refine loopLT (mu₀ := []) (G := _) (Str.ofString "net") [(Str.ofString "net")] (fun _ mu => mu = []) rfl rfl List.mem_cons_self F4 N4 rfl ?_ ?_
          · rintro I1 i v u mu h tk it hv hI1 hoff rfl F5 N5
            refine genA fun QQ hQQ => ?_
            clear N4 lB
            obtain ⟨k, t, rfl, hk⟩ := hvs.at i v hv
            obtain ⟨p, hp, rfl⟩ := key_mem hk
            obtain ⟨hk0, hk1⟩ := hU2.low p hp
            have hin := valueAt_isSome (hT1.has p.1 (by omega) (by omega))
            simp only [List.nil_append] at N5
            (try dsimp only)
            (try k_fold)
            k_steps
            exact TE.to hQQ [] F' N' (fun _ _ _ h => nomatch h) rfl (fr_step (by decide) fr_base0)
          · rintro u mu h tk rfl F5 N5
            clear N4 F4 hvs
            simp only [List.nil_append] at N5
            (try dsimp only)
            (try k_fold)
            k_steps
            rename News h₀ _ _ _ => N6
            refine hret _ _ _ _ (by k_asm) (fun p hp => N6 p ?_) ⟨fa, 0, rfl, rfl⟩
            exact .tail _ (.tail _ (.tail _ (.tail _ hp)))
end

end
section
open PySem PySem.W PyProof.Rows
def isSt (kind : Str) : Bool := kind == (Str.ofString "flop") || kind == (Str.ofString "latch")
section
variable {prog : Program} {w : World} {p : Program} {loose : List Str} {mean : ExcName → Option Value} {mg mb : Str → Option Value} {news : List (Addr × Obj)}
set_option maxRecDepth 100000 in
set_option maxHeartbeats 8000000 in
theorem state_con (kind : Str) (kt : Tok) : Con prog w p loose mean mg mb 2 61 [.str kind kt] news (fun r nx => nx = news ∧ r = .bool (isSt kind)) := by
  w_top off; (have hfill : PySem.Challenge.rw_pq0453_01 = PySem.Challenge.rw_pq0453_01 ∧ hd.heap_39 = hd.heap_39 := (by k_fill; exact ⟨rfl, rfl⟩)); clear hfill
  k_with_none
  k_with "storeName" => (k_here; k_dflt (refine' storeL ?F ?N ?_ ?a ?b; (case F => k_asm); (case N => k_asm); (case a => rfl); (case b => rfl); k_whole; intro h' tk' mm' F' N'))
  (unfold Con; intro dp un gd cn cs a ccd cl outer A₀ base h₀ L m sheap sgens sdrawn stoks sos Q E B F X N T hk hdp hun hret; refine wpAny_call ?_; k_dflt (refine' code_defL ?k1 ?k2 ?k3 ?k4 ?k5 ?kA ?kF ?kK ?k6 ?k7 ?k8 ?k9 ?kB ?_ ?c2 ?c3 ?c4 ?c5; (case kA => exact rfl); (case kF => exact rfl); (case kK => assumption); (case k1 => k_asm); (case k2 => k_asm); (case k3 => k_asm); (case k4 => k_asm); (case k5 => k_asm); (case k6 => k_is); (case k7 => k_is); (case k8 => first | exact Nat.lt_of_le_of_lt (Nat.le_add_right _ _) hdp | ktr_room); (case k9 => exact BindsTo.of_eq rfl); (case c5 => decide); (case kB => exact locs rfl); (case c2 => exact rfl); (case c3 => exact rfl); (case c4 => exact rfl); k_whole; intro g' L' h' tk' en' An' mm' FG' F' N' B' X' T' qq' ee'; (try dsimp only); (try k_lift B')))
  k_steps
  all_goals (refine hret _ _ _ _ (by k_asm) (cb_drop (by k_asm) (by intro q9 hq9; first | exact hq9 | exact .tail _ hq9 | exact .tail _ (.tail _ hq9))) ⟨rfl, ?_⟩)
  all_goals clear hret F N B X T
  all_goals simp only [isSt, *, Bool.true_or, Bool.false_or, Bool.or_true, Bool.or_false]
/-- what the state of a cell is called -/
inductive SN (news : List (Addr × Obj)) : Addr → Str → Prop
  | flop (c ai a : Addr) (kt ot t u v : Tok) (out e b : Int) (n : Str) : (c, tupO [.str (Str.ofString "flop") kt, .int out ot, .ref ai, .ref a]) ∈ news → (a, tupO [.int e t, .str n u, .int b v]) ∈ news → SN news c n
  | latch (c ai a : Addr) (kt ot t u : Tok) (out b : Int) (n : Str) : (c, tupO [.str (Str.ofString "latch") kt, .int out ot, .ref ai, .ref a]) ∈ news → (a, tupO [.str n t, .int b u]) ∈ news → SN news c n
theorem SN.mono {news news' : List (Addr × Obj)} {c : Addr} {n : Str} (h : SN news c n) (s : ∀ p ∈ news, p ∈ news') : SN news' c n := by
  cases h
  · exact .flop _ _ _ _ _ _ _ _ _ _ _ _ (s _ (by assumption)) (s _ (by assumption))
  · exact .latch _ _ _ _ _ _ _ _ _ _ (s _ (by assumption)) (s _ (by assumption))
def nameOf : Dat → Str
  | .tuple [.str n, .int _] => n
  | .tuple [.int _, .str n, .int _] => n
  | _ => Str.ofString ""
theorem SN.of {c ai : Addr} {kind : Str} {kt ot : Tok} {out : Int} {pv : Value} {pd : Dat} {wd : Int} (m : (c, tupO [.str kind kt, .int out ot, .ref ai, pv]) ∈ news) (h : ParIn news kind pv pd) (hs : isSt kind = true) (hf : fitsD kind wd pd = true) : SN news c (nameOf pd) := by
  have hne : kind ≠ (Str.ofString "lut") := fun e => by rw [e] at hs; exact absurd hs (by decide)
  cases h with
  | lut => exact absurd rfl hne
  | none _ h0 =>
    rw [← fd_none h0] at hf
    unfold isSt at hs
    rcases Bool.or_eq_true_iff.mp hs with e | e <;> rw [beq_iff_eq.mp e] at hf <;> exact absurd hf (by decide)
  | int _ i t h0 => rw [fd_int h0] at hf; cases hf
  | str _ x t h0 => rw [fd_str h0] at hf; cases hf
  | few _ a vs ds k h0 h1 h2 h3 h4 h5 _ => rw [fd_few h0 (by omega) (by omega)] at hf; cases hf
  | cell3 => exact absurd hs (by decide)
  | cell2 => exact absurd hs (by decide)
  | latch a n t u b m2 => exact .latch c ai a kt ot t u out b n m m2
  | flop a e n t u v b m2 => exact .flop c ai a kt ot t u v out e b n m m2
set_option maxRecDepth 100000 in
set_option maxHeartbeats 8000000 in
theorem name_con (c : Addr) (n : Str) (h9 : SN news c n) : Con prog w p loose mean mg mb 2 68 [.ref c] news (fun r nx => nx = news ∧ ∃ t, r = .str n t) := by
  w_top off; (have hfill : PySem.Challenge.rw_pq0453_01 = PySem.Challenge.rw_pq0453_01 ∧ hd.heap_39 = hd.heap_39 := (by k_fill; exact ⟨rfl, rfl⟩)); clear hfill
  k_with_none
  k_with "storeName" => (k_here; k_dflt (refine' storeL ?F ?N ?_ ?a ?b; (case F => k_asm); (case N => k_asm); (case a => rfl); (case b => rfl); k_whole; intro h' tk' mm' F' N'))
  k_with "subscriptTail" => (k_here; (with_reducible show wpAny _ _ (subscriptTail _ _ (Value.ref _) (Value.int _ _)) _ _ _); k_dflt (refine' itemT ?k1 ?k2 ?k3 ?k4 ?k5 ?_; (case k1 => k_asm); (case k2 => k_mem); (case k3 => decide); (case k4 => decide); (case k5 => exact rfl); k_whole))
  (unfold Con; intro dp un gd cn cs a ccd cl outer A₀ base h₀ L m sheap sgens sdrawn stoks sos Q E B F X N T hk hdp hun hret; refine wpAny_call ?_; k_dflt (refine' code_defL ?k1 ?k2 ?k3 ?k4 ?k5 ?kA ?kF ?kK ?k6 ?k7 ?k8 ?k9 ?kB ?_ ?c2 ?c3 ?c4 ?c5; (case kA => exact rfl); (case kF => exact rfl); (case kK => assumption); (case k1 => k_asm); (case k2 => k_asm); (case k3 => k_asm); (case k4 => k_asm); (case k5 => k_asm); (case k6 => k_is); (case k7 => k_is); (case k8 => first | exact Nat.lt_of_le_of_lt (Nat.le_add_right _ _) hdp | ktr_room); (case k9 => exact BindsTo.of_eq rfl); (case c5 => decide); (case kB => exact locs rfl); (case c2 => exact rfl); (case c3 => exact rfl); (case c4 => exact rfl); k_whole; intro g' L' h' tk' en' An' mm' FG' F' N' B' X' T' qq' ee'; (try dsimp only); (try k_lift B')))
  cases h9
  all_goals k_steps
  all_goals (refine hret _ _ _ _ (by k_asm) (cb_drop (by k_asm) (by intro q9 hq9; first | exact hq9 | exact .tail _ hq9 | exact .tail _ (.tail _ hq9))) ⟨rfl, ?_⟩)
  all_goals exact ⟨_, rfl⟩
end

end
section
open PySem PySem.W PyProof.Rows
section
variable {prog : Program} {w : World} {p : Program} {loose : List Str} {mean : ExcName → Option Value} {mg mb : Str → Option Value} {news : List (Addr × Obj)}
set_option maxRecDepth 100000 in
set_option maxHeartbeats 8000000 in
theorem nm_con (x ca : Addr) (count : Int) (bits : List Int) (cvs : List Value) (ds : List CellD) (q : Nat → Str) (hn : NetIn news x count bits ca cvs) (hc : Rel2 (CellIn news) cvs ds) (hl : ds.length ≤ 4) (hil : ∀ c ∈ ds, c.ins.length ≤ 70)
    (hq : ∀ (i : Nat) c, ds[i]? = some c → isSt c.kind = true → c.fits = true → nameOf c.pd = q i) (hqi : ∀ i j, i < 4 → j < 4 → q i = q j → i = j) :
    Con prog w p loose mean mg mb 6 201 [.ref x] news (fun r nx => ∃ fa n, r = .ref fa ∧ nx = (fa, listOf ([] : List Value).toArray n) :: news) := by
  w_top off; (have hfill : PySem.Challenge.rw_pq0453_01 = PySem.Challenge.rw_pq0453_01 ∧ hd.heap_39 = hd.heap_39 := (by k_fill; exact ⟨rfl, rfl⟩)); clear hfill
  k_with_none
  k_with "storeName" => (k_here; k_dflt (refine' storeL ?F ?N ?_ ?a ?b; (case F => k_asm); (case N => k_asm); (case a => rfl); (case b => rfl); k_whole; intro h' tk' mm' F' N'))
  k_with "pyIter ref" => ((with_reducible show wpAny _ _ (pyIter (Value.ref _)) (fun it s₂ => LoopAtV _ _ _ _ _ _ _ _ _ it s₂) _ _); refine Stop.out ?_)
  k_with "pyIter ref" => ((with_reducible show wpAny _ _ (pyIter (Value.ref _)) (fun it s₂ => TurnsAt _ _ _ _ _ _ _ _ _ it s₂) _ _); refine Stop.out ?_)
  k_with "exec For Tuple BinOp cons nil" => (k_here; (rename Fr _ _ _ _ => lF'); (with_unfolding_all refine' For_turns lF' ?_; k_whole))
  k_with "exec For Name Attribute cons nil" => (k_here; (rename Fr _ _ _ _ => lF'); (with_unfolding_all refine' For_turns lF' ?_; k_whole))
  k_with "newList" => (refine Stop.out ?_)
  k_with "eval Dict" => (refine Stop.out ?_)
  k_with "eval Dict nil nil" => (refine Stop.out ?_)
  k_with "subscriptTail" => (k_here; (with_reducible show wpAny _ _ (subscriptTail _ _ (Value.ref _) (Value.int _ _)) _ _ _); k_dflt (refine' itemT ?k1 ?k2 ?k3 ?k4 ?k5 ?_; (case k1 => k_asm); (case k2 => k_mem); (case k3 => decide); (case k4 => decide); (case k5 => exact rfl); k_whole))
  k_with "compareOp In str ref" => (k_here; k_dflt (refine' kda_in (knd := PySem.strKind _ _) ?N ?m ?d ?lo (strKind_is _ _ _ _) _ ?l ?_; (case N => k_asm); (case m => k_mem); (case d => k_asm); (case lo => assumption); (case l => first | assumption | exact hin9 (by assumption) (by assumption))))
  k_with "call ref" => (k_here; (with_reducible show wpAny _ _ (call (Value.ref 61) _) _ _ _); k_dflt ((refine' Con.use (state_con _ _) ?k1 ?k2 ?k3 ?k4 ?k5 ?kK ?kd ?ku ?_; (case k1 => k_asm); (case k2 => k_asm); (case k3 => k_asm); (case k4 => k_asm); (case k5 => k_asm); (case kK => first | exact rfl | assumption); (case kd => first | exact room1 hdp rfl | exact room0 hdp rfl | ktr_room); (case ku => first | exact room2 hun rfl | exact room3 hun rfl | ktr_units)); intro r9 nx9 h9 tk9 F9 N9 hP9; (refine hide fun P9 hX9 => ?_); (obtain ⟨e9, e8⟩ := hP9; subst e9; subst e8); (refine hX9 ?_); clear hX9; (try dsimp only); (try k_fold)))
  k_with "call ref" => (k_here; (with_reducible show wpAny _ _ (call (Value.ref 180) _) _ _ _); k_dflt ((refine' Con.use (fits_con _ _ _ _ _ _ _ _ _ _ ?q1 ?q2 ?q3 ?q4 ?q5 ?q6) ?k1 ?k2 ?k3 ?k4 ?k5 ?kK ?kd ?ku ?_; (case k1 => k_asm); (case k2 => k_asm); (case k3 => k_asm); (case k4 => k_asm); (case k5 => k_asm); (case kK => first | exact rfl | assumption); (case q1 => k_mem); (case q2 => k_mem); (case q3 => exact rfl); (case q4 => first | assumption | omega); (case q5 => first | assumption | omega); (case q6 => first | assumption | exact ParIn.mono (by assumption) (by intro p9 hp9; k_mem)); (case kd => first | exact room1 hdp rfl | exact room0 hdp rfl | ktr_room); (case ku => first | exact room2 hun rfl | exact room3 hun rfl | ktr_units)); intro r9 nx9 h9 tk9 F9 N9 hP9; (refine hide fun P9 hX9 => ?_); (obtain ⟨e9, e8⟩ := hP9; subst e9; subst e8); (refine hX9 ?_); clear hX9; (try dsimp only); (try k_fold)))
  k_with "call ref" => (k_here; (with_reducible show wpAny _ _ (call (Value.ref 68) _) _ _ _); k_dflt ((refine' Con.use (name_con _ (nameOf pd) ?q1) ?k1 ?k2 ?k3 ?k4 ?k5 ?kK ?kd ?ku ?_; (case k1 => k_asm); (case k2 => k_asm); (case k3 => k_asm); (case k4 => k_asm); (case k5 => k_asm); (case kK => first | exact rfl | assumption); (case q1 => exact SN.mono (hsn (by assumption) (by assumption)) (by intro p9 hp9; k_mem)); (case kd => first | exact room1 hdp rfl | exact room0 hdp rfl | ktr_room); (case ku => first | exact room2 hun rfl | exact room3 hun rfl | ktr_units)); intro r9 nx9 h9 tk9 F9 N9 hP9; (refine hide fun P9 hX9 => ?_); (obtain ⟨e9, t9, e8⟩ := hP9; subst e9; subst e8); (refine hX9 ?_); clear hX9; (try dsimp only); (try k_fold)))
  k_with "setItem ref str" => (k_here; k_dflt (refine' kda_set (knd := PySem.strKind _ _) ?F ?N ?U ?d (strKind_is _ _ _ _) ?z ?_; (case F => k_asm); (case N => k_asm); (case U => k_updF); (case d => k_asm); (case z => first | exact zbig1 (by assumption) (by decide) | exact zbig2 (by assumption) (by assumption) (by assumption) (by decide) | exact zbig3 (by assumption) (by assumption) (by assumption) (by assumption) (by decide) | exact zbig4 (by assumption) (by assumption) (by assumption) (by assumption) | (rw [sizeLine_eq]; omega))); intro h' o' F' N' hd'; (try dsimp only at N'))
  (unfold Con; intro dp un gd cn cs a ccd cl outer A₀ base h₀ L m sheap sgens sdrawn stoks sos Q E B F X N T hk hdp hun hret; refine wpAny_call ?_; k_dflt (refine' code_defL ?k1 ?k2 ?k3 ?k4 ?k5 ?kA ?kF ?kK ?k6 ?k7 ?k8 ?k9 ?kB ?_ ?c2 ?c3 ?c4 ?c5; (case kA => exact rfl); (case kF => exact rfl); (case kK => assumption); (case k1 => k_asm); (case k2 => k_asm); (case k3 => k_asm); (case k4 => k_asm); (case k5 => k_asm); (case k6 => k_is); (case k7 => k_is); (case k8 => first | exact Nat.lt_of_le_of_lt (Nat.le_add_right _ _) hdp | ktr_room); (case k9 => exact BindsTo.of_eq rfl); (case c5 => decide); (case kB => exact locs rfl); (case c2 => exact rfl); (case c3 => exact rfl); (case c4 => exact rfl); k_whole; intro g' L' h' tk' en' An' mm' FG' F' N' B' X' T' qq' ee'; (try dsimp only); (try k_lift B')))
  cases hn
  k_steps
  refine Stop.mk ?_
  (refine' newList_K ?F ?N ?_; (case F => k_asm); (case N => k_asm))
  intro fa h1 F1 N1 lfa
  k_steps
  refine Stop.mk ?_
  (refine' dictNew0 (PySem.strKind _ _) ?F ?N ?b ?_; (case F => k_asm); (case N => k_asm); (case b => exact Top.nolimit (by k_asm)))
  intro sd h3 o3 F3 N3 lsd losd hds
  k_steps
  rename_i D' _ _ N4 lD
  (try clear F1 N1); (try clear F3 N3)
  have q1 : fa < sd := lsd _ List.mem_cons_self
  have q2 : sd < D' := lD.1
  have n1 : ∀ p ∈ news, p.1 ≠ fa := fun p hp => Nat.ne_of_lt (lfa p hp)
  have n2 : ∀ p ∈ news, p.1 ≠ sd := fun p hp => Nat.ne_of_lt (lsd p (.tail _ hp))
  refine Stop.mk ?_
  refine loopLT (mu₀ := [(sd, o3)]) (G := (D', _) :: (fa, _) :: news) (Str.ofString "name") [(Str.ofString "name"), Str.ofString "bits"] (fun i mu => ∃ o ks, mu = [(sd, o)] ∧ o.IsDictOf (PySem.strKind prog w) ks ∧ ks.length ≤ i) rfl rfl List.mem_cons_self (by assumption) (news_swap N4)
    ⟨o3, [], rfl, hds, Nat.le_refl _⟩ ?_ ?_
  · rintro I1 i v u mu h tk it hv hI1 hoff hI9 F2 N2
    refine genA fun QQ hQQ => ?_
    obtain ⟨o, ks, rfl, hd1, hkl⟩ := hI9
    obtain ⟨rfl, rfl⟩ : i = 0 ∧ v = _ := by
      cases i with
      | zero => exact ⟨rfl, (Option.some.inj hv).symm⟩
      | succ i => simp at hv
    have r1 : sd < I1 := hI1 _ List.mem_cons_self
    have hin : (valueAt ks (Str.ofString "a")).isSome = false := by rw [List.length_eq_zero_iff.mp (Nat.le_zero.mp hkl)]; rfl
    clear N4
    simp only [List.cons_append, List.nil_append] at N2
    (try dsimp only)
    (try k_fold)
    k_steps
    exact TE.to hQQ [(sd, o')] F' N' (off1 r1) ⟨o', _, rfl, hd', Nat.le_trans (stored_len _ _ _) (by first | exact Nat.succ_le_succ hkl | omega)⟩ (fr_step (by decide) (fr_step (by decide) fr_base0))
  · rintro u mu h tk hI9 F2 N2
    refine hide fun P9 hX9 => ?_
    obtain ⟨o, ks, rfl, hd1, hkl⟩ := hI9
    refine hX9 ?_
    clear hX9
    clear N4 hd1 hkl ks
    simp only [List.cons_append, List.nil_append] at N2
    (try dsimp only)
    (try k_fold)
    k_steps
    refine Stop.mk ?_
    (refine' dictNew0 (PySem.strKind _ _) ?F ?N ?b ?_; (case F => k_asm); (case N => k_asm); (case b => exact Top.nolimit (by k_asm)))
    intro td h5 o5 F5 N5 ltd lotd hdt
    k_steps
    have q3 : fa < td := ltd _ (.tail _ (.tail _ (.head _)))
    have n3 : ∀ p ∈ news, p.1 ≠ td := fun p hp => Nat.ne_of_lt (ltd p (.tail _ (.tail _ (.tail _ hp))))
    have q4 : sd < td := ltd _ (.head _)
    have q5 : D' < td := ltd _ (.tail _ (.head _))
    rename News _ _ _ _ => N6
    (try clear F5 N5); (try clear N2); (try clear ltd)
    refine Stop.mk ?_
    refine loopLT (mu₀ := [(td, o5)]) (G := (sd, o) :: (D', _) :: (fa, _) :: news) (Str.ofString "cell") [(Str.ofString "cell")] (fun i mu => ∃ o ks, mu = [(td, o)] ∧ o.IsDictOf (PySem.strKind prog w) ks ∧ ks.length ≤ i ∧ ∀ p ∈ ks, ∃ j, j < i ∧ p.1 = q j) rfl rfl (.tail _ (.tail _ (.tail _ (by assumption)))) (by assumption) N6
      ⟨o5, [], rfl, hdt, Nat.le_refl _, fun _ h => nomatch h⟩ ?_ ?_
    · clear N6
      rintro I1 i v u mu h tk it hv hI1 hoff hI9 F2 N2
      refine genA fun QQ hQQ => ?_
      obtain ⟨ot, ks, rfl, hd1, hkl, hks⟩ := hI9
      obtain ⟨c, hci, hcc⟩ := hc.at i v hv
      have hil2 := hil c (List.mem_of_getElem? hci)
      have hid : i < ds.length := (List.getElem?_eq_some_iff.mp hci).1
      have hqc := hq i c hci
      cases hcc with
      | mk ca' ai kind out ins pd kt' ot' pv ivs m1 m2 hi hp =>
      have hiv := hi.length
      dsimp only at hil2 hqc
      have hqc' : isSt kind = true → fitsD kind (ivs.length : Int) pd = true → nameOf pd = q i := by rw [hiv]; exact hqc
      have hsn : isSt kind = true → fitsD kind (ivs.length : Int) pd = true → SN news ca' (nameOf pd) := fun a b => SN.of m1 hp a b
      have hin9 : isSt kind = true → fitsD kind (ivs.length : Int) pd = true → (valueAt ks (nameOf pd)).isSome = false := by
        intro a b
        rw [valueAt_none fun p hp e => ?_]
        · rfl
        · obtain ⟨j, hj, e2⟩ := hks p hp
          exact absurd (hqi j i (by omega) (by omega) (by rw [← e2, e, hqc' a b])) (by omega)
      have r1 : td < I1 := hI1 _ List.mem_cons_self
      clear hq hqi hqc
      simp only [List.cons_append, List.nil_append] at N2
      (try dsimp only)
      (try k_fold)
      k_steps
      · have hnm := hqc' (by assumption) (by assumption)
        exact TE.to hQQ [(td, o')] F' N' (off1 r1) ⟨o', _, rfl, hd', Nat.le_trans (stored_len _ _ _) (by first | exact Nat.succ_le_succ hkl | omega), fun p hp => by
          rcases stored_mem hp with e | ⟨hp, _⟩
          · exact ⟨i, Nat.lt_succ_self i, by rw [e]; exact hnm⟩
          · obtain ⟨j, hj, e⟩ := hks p hp; exact ⟨j, Nat.lt_succ_of_lt hj, e⟩⟩ (fr_step (by decide) fr_base0)
      all_goals exact TE.to hQQ [(td, ot)] F9 N9 (off1 r1) ⟨ot, ks, rfl, hd1, by first | exact Nat.le_succ_of_le hkl | omega, fun p hp => by obtain ⟨j, hj, e⟩ := hks p hp; exact ⟨j, Nat.lt_succ_of_lt hj, e⟩⟩ (fr_step (by decide) fr_base0)
    · rintro u mu h tk hI9 F2 N2
      refine hide fun P9 hX9 => ?_
      obtain ⟨ot, ks, rfl, hd1, _, _⟩ := hI9
      refine hX9 ?_
      clear hX9
      clear N6
      (try dsimp only)
      (try k_fold)
      k_steps
      rename News h₀ _ _ _ => N7
      refine hret _ _ _ _ (by k_asm) (fun p hp => N7 p ?_) ⟨fa, 0, rfl, rfl⟩
      exact .tail _ (.tail _ (.tail _ hp))
end

end
section
open PySem PySem.W PyProof.Rows
/-- keys below n, so many at most -/
structure Bd (kvs : List (Int × Value)) (n : Int) (k : Nat) : Prop where
  low : ∀ p ∈ kvs, p.1 < n
  len : kvs.length ≤ k
theorem Bd.none {kvs : List (Int × Value)} {n : Int} {k : Nat} (h : Bd kvs n k) : (valueAt kvs n).isSome = false := by
  rw [valueAt_none fun p hp e => by have := h.low p hp; omega]; rfl
theorem Bd.next {kvs : List (Int × Value)} {n : Int} {k : Nat} {v : Value} (h : Bd kvs n k) : Bd (stored kvs n v) (n + 1) (k + 1) where
  low := fun p hp => by
    rcases stored_mem hp with e | ⟨hp, _⟩
    · rw [e]; show n < n + 1; omega
    · have := h.low p hp; omega
  len := by have := stored_len kvs n v; have := h.len; omega
theorem bd_start {v u : Value} : Bd [(0, v), (1, u)] 2 2 where
  low := fun p hp => by
    simp only [List.mem_cons, List.not_mem_nil, or_false] at hp
    rcases hp with h | h <;> rw [h]
    · show (0 : Int) < 2; decide
    · show (1 : Int) < 2; decide
  len := Nat.le_refl _
/-- keys from n up, so many at most -/
structure Ab (kvs : List (Int × Value)) (n : Int) (k : Nat) : Prop where
  low : ∀ p ∈ kvs, n ≤ p.1
  len : kvs.length ≤ k
theorem Ab.next {kvs : List (Int × Value)} {n j : Int} {k : Nat} {v : Value} (h : Ab kvs n k) (hj : n ≤ j) : Ab (stored kvs j v) n (k + 1) where
  low := fun p hp => by
    rcases stored_mem hp with e | ⟨hp, _⟩
    · rw [e]; exact hj
    · exact h.low p hp
  len := by have := stored_len kvs j v; have := h.len; omega
section
variable {prog : Program} {w : World} {p : Program} {loose : List Str} {mean : ExcName → Option Value} {mg mb : Str → Option Value} {news : List (Addr × Obj)}
set_option maxRecDepth 100000 in
set_option maxHeartbeats 8000000 in
theorem drv_con (x ca : Addr) (count W : Int) (bits : List Int) (cvs : List Value) (ds : List CellD) (hn : NetIn news x count bits ca cvs) (hc : Rel2 (CellIn news) cvs ds) (hl : ds.length ≤ 4)
    (hW : (bits.length : Int) = W) (hW1 : 1 ≤ W) (hW2 : W ≤ 70) (hb : ∀ (j : Nat) b, bits[j]? = some b → b = 2 + j) (hout : ∀ (i : Nat) c, ds[i]? = some c → c.out = 2 + W + i) :
    Con prog w p loose mean mg mb 4 152 [.ref x] news (fun r nx => ∃ d o kvs, r = .ref d ∧ nx = (d, o) :: news ∧ o.IsDictOf (PySem.intKind prog w) kvs ∧ (d == sysModules) = false ∧ (∀ p ∈ kvs, 2 + W ≤ p.1) ∧ ∀ q ∈ news, q.1 < d) := by
  w_top off; (have hfill : PySem.Challenge.rw_pq0453_01 = PySem.Challenge.rw_pq0453_01 ∧ hd.heap_39 = hd.heap_39 := (by k_fill; exact ⟨rfl, rfl⟩)); clear hfill
  k_with_none
  k_with "storeName" => (k_here; k_dflt (refine' storeL ?F ?N ?_ ?a ?b; (case F => k_asm); (case N => k_asm); (case a => rfl); (case b => rfl); k_whole; intro h' tk' mm' F' N'))
  k_with "pyIter ref" => ((with_reducible show wpAny _ _ (pyIter (Value.ref _)) (fun it s₂ => LoopAtV _ _ _ _ _ _ _ _ _ it s₂) _ _); refine Stop.out ?_)
  k_with "pyIter ref" => ((with_reducible show wpAny _ _ (pyIter (Value.ref _)) (fun it s₂ => TurnsAt _ _ _ _ _ _ _ _ _ it s₂) _ _); refine Stop.out ?_)
  k_with "exec For Tuple Attribute cons nil" => (k_here; (rename Fr _ _ _ _ => lF'); (with_unfolding_all refine' For_turns lF' ?_; k_whole))
  k_with "exec For Name Name cons nil" => (k_here; (rename Fr _ _ _ _ => lF'); (with_unfolding_all refine' For_turns lF' ?_; k_whole))
  k_with "exec For Name Call cons nil" => (k_here; (rename Fr _ _ _ _ => lF'); (with_unfolding_all refine' For_invVF lF' ?k1 ?k2 ?_; (case k1 => exact rfl); (case k2 => exact rfl); k_whole))
  k_with "newList" => (refine Stop.out ?_)
  k_with "eval Dict" => (refine Stop.out ?_)
  k_with "eval Dict nil nil" => (refine Stop.out ?_)
  k_with "subscriptTail" => (k_here; (with_reducible show wpAny _ _ (subscriptTail _ _ (Value.ref _) (Value.int _ _)) _ _ _); k_dflt (refine' itemT ?k1 ?k2 ?k3 ?k4 ?k5 ?_; (case k1 => k_asm); (case k2 => k_mem); (case k3 => decide); (case k4 => decide); (case k5 => exact rfl); k_whole))
  k_with "subscriptTail" => (k_here; (with_reducible show wpAny _ _ (subscriptTail _ _ (Value.ref _) (Value.int _ _)) _ _ _); k_dflt (refine' itemLx ?k1 ?k2 ?k3 ?k4 ?k5 ?_; (case k1 => k_asm); (case k2 => k_mem); (case k5 => assumption); (case k3 => first | exact Int.natCast_nonneg _ | omega); (case k4 => first | exact idx63 (by assumption) (by assumption) (by assumption) | omega); k_whole))
  k_with "call builtin:len" => (k_here; (with_reducible show wpAny _ _ (call (Value.builtin "len") [Value.ref _]) _ _ _); k_dflt (refine' lenL ?k1 ?k2 ?k3 ?k4 ?_; (case k1 => k_asm); (case k2 => k_mem); (case k3 => first | assumption | exact rfl); (case k4 => first | exact big2 (by assumption) (by assumption) (by decide) | exact big1 (by assumption) (by decide) | decide | omega); intro tk' tk''))
  k_with "compareOp In int ref" => (k_here; k_dflt (refine' kda_in (knd := PySem.intKind _ _) ?N ?m ?d ?lo (intKind_is _ _ _ _) _ ?l ?_; (case N => k_asm); (case m => k_mem); (case d => k_asm); (case lo => assumption); (case l => assumption)))
  k_with "setItem ref int" => (k_here; k_dflt (refine' kda_set (knd := PySem.intKind _ _) ?F ?N ?U ?d (intKind_is _ _ _ _) ?z ?_; (case F => k_asm); (case N => k_asm); (case U => k_updF); (case d => k_asm); (case z => first | exact zbig1 (by assumption) (by decide) | exact zbig2 (by assumption) (by assumption) (by assumption) (by decide) | exact zbig3 (by assumption) (by assumption) (by assumption) (by assumption) (by decide) | exact zbig4 (by assumption) (by assumption) (by assumption) (by assumption) | (rw [sizeLine_eq]; omega))); intro h' o' F' N' hd'; (try dsimp only at N'))
  (unfold Con; intro dp un gd cn cs a ccd cl outer A₀ base h₀ L m sheap sgens sdrawn stoks sos Q E B F X N T hk hdp hun hret; refine wpAny_call ?_; k_dflt (refine' code_defL ?k1 ?k2 ?k3 ?k4 ?k5 ?kA ?kF ?kK ?k6 ?k7 ?k8 ?k9 ?kB ?_ ?c2 ?c3 ?c4 ?c5; (case kA => exact rfl); (case kF => exact rfl); (case kK => assumption); (case k1 => k_asm); (case k2 => k_asm); (case k3 => k_asm); (case k4 => k_asm); (case k5 => k_asm); (case k6 => k_is); (case k7 => k_is); (case k8 => first | exact Nat.lt_of_le_of_lt (Nat.le_add_right _ _) hdp | ktr_room); (case k9 => exact BindsTo.of_eq rfl); (case c5 => decide); (case kB => exact locs rfl); (case c2 => exact rfl); (case c3 => exact rfl); (case c4 => exact rfl); k_whole; intro g' L' h' tk' en' An' mm' FG' F' N' B' X' T' qq' ee'; (try dsimp only); (try k_lift B')))
  cases hn
  have hcl := hc.length
  k_steps
  refine Stop.mk ?_
  (refine' kdn_eval (knd := PySem.intKind _ _) ?F ?N ?b ?a ?l ?e ?n ?_; (case F => k_asm); (case N => k_asm); (case b => exact Top.nolimit (by k_asm)); (case a => rfl); (case l => rfl); (case e => exact List.cons_ne_nil _ _); (case n => exact Nat.le_of_ble_eq_true rfl))
  intro td h3 o3 F3 N3 ltd lotd hdt
  k_steps
  rename Obj.IsDictOf _ _ (intKeyPairs _) => hdt2
  obtain ⟨kt, hdt3, hT⟩ : ∃ kt, Obj.IsDictOf (PySem.intKind prog w) _ kt ∧ Bd kt 2 2 := ⟨_, hdt2, bd_start⟩
  have n1 : ∀ p ∈ news, p.1 ≠ td := fun p hp => Nat.ne_of_lt (ltd p hp)
  rename News _ _ _ _ => N5
  (try clear F3 N3)
  clear hdt hdt2 ltd
  refine Stop.mk ?_
  refine loopLT (mu₀ := [(td, _)]) (G := news) (Str.ofString "net") [(Str.ofString "net"), Str.ofString "bits", Str.ofString "name"] (fun i mu => ∃ o ks, mu = [(td, o)] ∧ o.IsDictOf (PySem.intKind prog w) ks ∧ Bd ks (2 + i * W) (2 + 70 * i)) rfl rfl (by assumption) (by assumption) N5
    ⟨_, kt, rfl, hdt3, by simpa using hT⟩ ?_ ?_
  · rintro I1 i v u mu h tk it hv hI1 hoff hI9 F2 N2
    refine genA fun QQ hQQ => ?_
    obtain ⟨o1, k1, rfl, hd1, hB1⟩ := hI9
    obtain ⟨rfl, rfl⟩ : i = 0 ∧ v = _ := by
      cases i with
      | zero => exact ⟨rfl, (Option.some.inj hv).symm⟩
      | succ i => simp at hv
    have r1 : td < I1 := hI1 _ List.mem_cons_self
    clear N5
    simp only [List.cons_append, List.nil_append] at N2
    (try dsimp only)
    (try k_fold)
    k_steps
    rename News _ _ _ _ => N3
    refine Stop.mk ?_
    refine loopLT (mu₀ := [(td, o1)]) (G := (I1, it) :: news) (Str.ofString "net") [(Str.ofString "net")] (fun i mu => ∃ o ks, mu = [(td, o)] ∧ o.IsDictOf (PySem.intKind prog w) ks ∧ Bd ks (2 + i) (2 + i)) rfl rfl (.tail _ (by assumption)) (by assumption) N3
      ⟨o1, k1, rfl, hd1, by simpa using hB1⟩ ?_ ?_
    · clear N3 hd1 hB1
      rintro I2 j v u mu h tk it2 hv hI2 hoff2 hI9 F2 N2
      refine genA fun QQ hQQ => ?_
      obtain ⟨o1, k1, rfl, hd1, hB1⟩ := hI9
      obtain ⟨b, t, rfl, hbj⟩ := IntsAre.at (by assumption) j v hv
      have hbb := hb j b hbj
      have hjl : j < bits.length := (List.getElem?_eq_some_iff.mp hbj).1
      subst hbb
      have hnone := hB1.none
      have hlen := hB1.len
      have r4 : td < I2 := hI2 _ List.mem_cons_self
      simp only [List.cons_append, List.nil_append] at N2
      (try dsimp only)
      (try k_fold)
      k_steps
      exact TE.to hQQ [(td, o')] F' N' (off1 r4) ⟨o', _, rfl, hd', (show (2 : Int) + ((j + 1 : Nat) : Int) = 2 + (j : Int) + 1 from cnt1) ▸ hB1.next⟩ (fr_step (by decide) fr_base0)
    · rintro u mu h tk hI9 F2 N2
      refine hide fun P9 hX9 => ?_
      obtain ⟨o1, k1, rfl, hd1, hB1⟩ := hI9
      refine hX9 ?_
      clear hX9
      have hlb := IntsAre.length ‹IntsAre _ bits›
      rw [hlb, hW, e1w] at hB1
      (try dsimp only)
      (try k_fold)
      k_steps
      exact TE.to hQQ [(td, o1)] (by assumption) N2 (off1 r1) ⟨o1, k1, rfl, hd1, hB1.low, by have := hB1.len; omega⟩ (fr_sub (by decide) (fr_step (by decide) (fr_step (by decide) fr_base0)))
  · rintro u mu h tk hI9 F2 N2
    refine hide fun P9 hX9 => ?_
    obtain ⟨o1, k1, rfl, hd1, hB1⟩ := hI9
    refine hX9 ?_
    clear hX9
    clear N5
    simp only [List.cons_append, List.nil_append] at N2
    (try dsimp only)
    (try k_fold)
    k_steps
    refine Stop.mk ?_
    (refine' dictNew0 (PySem.intKind _ _) ?F ?N ?b ?_; (case F => k_asm); (case N => k_asm); (case b => exact Top.nolimit (by k_asm)))
    intro fd h5 o5 F5 N5 lfd lofd hdf
    k_steps
    have q1 : td < fd := lfd _ (.head _)
    have n2 : ∀ p ∈ news, p.1 ≠ fd := fun p hp => Nat.ne_of_lt (lfd p (.tail _ hp))
    have l9 : ∀ q ∈ news, q.1 < fd := fun p hp => lfd p (.tail _ hp)
    (try clear F5 N5); clear N2 lfd
    rename News _ _ _ _ => N6
    refine Stop.mk ?_
    refine loopR (n := cvs.length) (mu₀ := [(fd, o5), (td, o1)]) (G := news) [(Str.ofString "net")] (fun i mu => ∃ o2 o1 k2 k1, mu = [(fd, o2), (td, o1)] ∧ o1.IsDictOf (PySem.intKind prog w) k1 ∧ Bd k1 (2 + W + i) (72 + i) ∧ o2.IsDictOf (PySem.intKind prog w) k2 ∧ Ab k2 (2 + W) i) rfl (by assumption) rfl (by first | exact le_eq hcl hl (by decide) | omega) (by assumption) N6
      ⟨o5, o1, [], k1, rfl, hd1, ⟨by simpa using hB1.low, by have := hB1.len; simpa using this⟩, hdf, ⟨(fun _ h => nomatch h), Nat.le_refl _⟩⟩ ?_ ?_
    · clear N6 hd1 hB1 hdf
      rintro i t u mu h tk own hi hoff hI9 F2 N2
      refine genT fun QQ hQQ => ?_
      obtain ⟨o2, o1, k2, k1, rfl, hd1, hB1, hd2, hA2⟩ := hI9
      have hvi := List.getElem?_eq_getElem hi
      generalize cvs[i] = v at hvi
      obtain ⟨c, hci, hcc⟩ := hc.at i v hvi
      have hco := hout i c hci
      cases hcc with
      | mk ca' ai kind out ins pd kt' ot' pv ivs m1 m2 hi2 hp =>
      have hco' : out = 2 + W + i := hco
      subst hco'
      have hvi' : cvs[((i : Int)).toNat]? = some (Value.ref ca') := hvi
      have hnone := hB1.none
      have hlen := hB1.len
      have hlen2 := hA2.len
      have o1n : ∀ p ∈ own, p.1 ≠ td := fun p hp => hoff p hp td (by simp)
      have o2n : ∀ p ∈ own, p.1 ≠ fd := fun p hp => hoff p hp fd (by simp)
      simp only [List.cons_append, List.nil_append] at N2
      (try dsimp only)
      (try k_fold)
      k_steps
      rename Obj.IsDictOf _ _ (stored k1 _ _) => hda
      rename Obj.IsDictOf _ _ (stored k2 _ _) => hdb
      refine TE.to hQQ [(fd, o'), (td, _)] F' N' (fun p hp b hb => ?_) ⟨o', _, _, _, rfl, hda, ?_, hdb, hA2.next (by omega)⟩ (fr_step (by decide) fr_base)
      · simp only [List.map_cons, List.map_nil, List.mem_cons, List.not_mem_nil, or_false] at hb
        rcases hb with h | h <;> rw [h]
        · exact o2n p hp
        · exact o1n p hp
      · exact (show 2 + W + ((i + 1 : Nat) : Int) = 2 + W + (i : Int) + 1 from cnt1) ▸ hB1.next
    · rintro u mu h tk hI9 F2 N2
      refine hide fun P9 hX9 => ?_
      obtain ⟨o2, o1, k2, k1, rfl, hd1, hB1, hd2, hA2⟩ := hI9
      refine hX9 ?_
      clear hX9
      clear N6
      (try dsimp only)
      (try k_fold)
      k_steps
      rename News h₀ _ _ _ => N7
      refine hret _ _ _ _ (by k_asm) (fun p hp => N7 p ?_) ⟨fd, o2, k2, rfl, rfl, hd2, lofd, hA2.low, l9⟩
      rcases List.mem_cons.mp hp with h | h
      · rw [h]; exact .head _
      · exact .tail _ (.tail _ h)
end

end
section
open PySem PySem.W PyProof.Rows
/-- the indices of the cells without state -/
structure Rdy (ds : List CellD) (i : Nat) (rs : List Int) : Prop where
  all : ∀ (j : Nat) c, j < i → ds[j]? = some c → isSt c.kind = false → (j : Int) ∈ rs
  len : rs.length ≤ i
theorem Rdy.skip {ds : List CellD} {i : Nat} {rs : List Int} {c : CellD} (h : Rdy ds i rs) (hc : ds[i]? = some c) (hs : isSt c.kind = true) : Rdy ds (i + 1) rs where
  all := fun j c' hj hc' hs' => by
    by_cases e : j = i
    · rw [e, hc] at hc'; cases hc'; rw [hs] at hs'; cases hs'
    · exact h.all j c' (by omega) hc' hs'
  len := by have := h.len; omega
theorem Rdy.take {ds : List CellD} {i : Nat} {rs : List Int} (h : Rdy ds i rs) : Rdy ds (i + 1) (rs ++ [(i : Int)]) where
  all := fun j c' hj hc' hs' => by
    by_cases e : j = i
    · rw [e]; simp
    · exact List.mem_append_left _ (h.all j c' (by omega) hc' hs')
  len := by have := h.len; simp only [List.length_append, List.length_cons, List.length_nil]; omega
theorem off2 {own : List (Addr × Obj)} {a b : Addr} {o o' : Obj} (h1 : ∀ p ∈ own, p.1 ≠ a) (h2 : ∀ p ∈ own, p.1 ≠ b) : OwnOff own ([(a, o), (b, o')].map (·.1)) := by
  intro p hp c hc
  simp only [List.map_cons, List.map_nil, List.mem_cons, List.not_mem_nil, or_false] at hc
  rcases hc with h | h <;> rw [h]
  · exact h1 p hp
  · exact h2 p hp
section
variable {prog : Program} {w : World} {p : Program} {loose : List Str} {mean : ExcName → Option Value} {mg mb : Str → Option Value} {news : List (Addr × Obj)}
set_option maxRecDepth 100000 in
set_option maxHeartbeats 8000000 in
theorem ord_con (x ca dd : Addr) (od : Obj) (kvs : List (Int × Value)) (count W : Int) (bits : List Int) (cvs : List Value) (ds : List CellD) (hn : NetIn news x count bits ca cvs) (hc : Rel2 (CellIn news) cvs ds) (hl : ds.length ≤ 4) (ho : ∀ c ∈ ds, c.Ok W) (hW1 : 1 ≤ W)
    (hdd : (dd, od) ∈ news) (hod : od.IsDictOf (PySem.intKind prog w) kvs) (lod : (dd == sysModules) = false) (hkv : ∀ p ∈ kvs, 2 + W ≤ p.1) :
    Con prog w p loose mean mg mb 4 159 [.ref x, .ref dd] news (fun r nx => ∃ ra rvs n rs, r = .ref ra ∧ nx = (ra, listOf rvs.toArray n) :: news ∧ IntsAre rvs rs ∧ Rdy ds ds.length rs ∧ ∀ q ∈ news, q.1 < ra) := by
  w_top off; (have hfill : PySem.Challenge.rw_pq0453_01 = PySem.Challenge.rw_pq0453_01 ∧ hd.heap_39 = hd.heap_39 := (by k_fill; exact ⟨rfl, rfl⟩)); clear hfill
  k_with_none
  k_with "storeName" => (k_here; k_dflt (refine' storeL ?F ?N ?_ ?a ?b; (case F => k_asm); (case N => k_asm); (case a => rfl); (case b => rfl); k_whole; intro h' tk' mm' F' N'))
  k_with "pyIter ref" => ((with_reducible show wpAny _ _ (pyIter (Value.ref _)) (fun it s₂ => LoopAtV _ _ _ _ _ _ _ _ _ it s₂) _ _); refine Stop.out ?_)
  k_with "pyIter ref" => ((with_reducible show wpAny _ _ (pyIter (Value.ref _)) (fun it s₂ => TurnsAt _ _ _ _ _ _ _ _ _ it s₂) _ _); refine Stop.out ?_)
  k_with "exec While Compare cons nil" => (refine Stop.out ?_)
  k_with "exec For Name Call cons nil" => (k_here; (rename Fr _ _ _ _ => lF'); (with_unfolding_all refine' For_invVF lF' ?k1 ?k2 ?_; (case k1 => exact rfl); (case k2 => exact rfl); k_whole))
  k_with "exec For Name Subscript cons nil" => (k_here; (rename Fr _ _ _ _ => lF'); (with_unfolding_all refine' For_turns lF' ?_; k_whole))
  k_with "newList" => (refine Stop.out ?_)
  k_with "eval Dict" => (refine Stop.out ?_)
  k_with "eval Dict nil nil" => (refine Stop.out ?_)
  k_with "call type:range" => (k_here; k_dflt (refine' rangeR ?F ?N ?_; (case F => k_asm); (case N => k_asm)); intro r9 h9 tk9 t9 u9 v9 R9 F9 N9)
  k_with "subscriptTail" => (k_here; (with_reducible show wpAny _ _ (subscriptTail _ _ (Value.ref _) (Value.int _ _)) _ _ _); k_dflt (refine' itemT ?k1 ?k2 ?k3 ?k4 ?k5 ?_; (case k1 => k_asm); (case k2 => k_mem); (case k3 => decide); (case k4 => decide); (case k5 => exact rfl); k_whole))
  k_with "subscriptTail" => (k_here; (with_reducible show wpAny _ _ (subscriptTail _ _ (Value.ref _) (Value.int _ _)) _ _ _); k_dflt (refine' itemL ?k1 ?k2 ?k3 ?k4 ?k5 ?_; (case k1 => k_asm); (case k2 => k_mem); (case k3 => first | exact Int.natCast_nonneg _ | omega); (case k4 => first | exact Int.ofNat_lt.mpr (by assumption) | omega); (case k5 => omega); k_whole); intro v9 hv9)
  k_with "subscriptTail" => (k_here; (with_reducible show wpAny _ _ (subscriptTail _ _ (Value.ref _) (Value.int _ _)) _ _ _); k_dflt (refine' itemLx ?k1 ?k2 ?k3 ?k4 ?k5 ?_; (case k1 => k_asm); (case k2 => k_mem); (case k5 => assumption); (case k3 => first | exact Int.natCast_nonneg _ | omega); (case k4 => first | exact idx63 (by assumption) (by assumption) (by assumption) | omega); k_whole))
  k_with "call builtin:len" => (k_here; (with_reducible show wpAny _ _ (call (Value.builtin "len") [Value.ref _]) _ _ _); k_dflt (refine' lenL ?k1 ?k2 ?k3 ?k4 ?_; (case k1 => k_asm); (case k2 => k_mem); (case k3 => first | assumption | exact rfl); (case k4 => first | exact big2 (by assumption) (by assumption) (by decide) | exact big1 (by assumption) (by decide) | decide | omega); intro tk' tk''))
  k_with "call builtin:dict.get" => (k_here; k_dflt (refine' dgetN (knd := PySem.intKind _ _) ?N ?m ?d ?lo (intKind_is _ _ _ _) ?l ?_; (case N => k_asm); (case m => k_mem); (case d => k_asm); (case lo => assumption); (case l => first | assumption | exact hnone _)); intro tk')
  k_with "getMethod ref" => (k_here; k_dflt (refine' kdg_method (knd := PySem.intKind _ _) ?N ?m ?d ?_; (case N => k_asm); (case m => k_mem); (case d => k_asm); k_whole))
  k_with "setItem ref int" => (k_here; k_dflt (refine' kda_set (knd := PySem.intKind _ _) ?F ?N ?U ?d (intKind_is _ _ _ _) ?z ?_; (case F => k_asm); (case N => k_asm); (case U => k_updF); (case d => k_asm); (case z => first | exact zbig1 (by assumption) (by decide) | exact zbig2 (by assumption) (by assumption) (by assumption) (by decide) | exact zbig3 (by assumption) (by assumption) (by assumption) (by assumption) (by decide) | exact zbig4 (by assumption) (by assumption) (by assumption) (by assumption) | (rw [sizeLine_eq]; omega))); intro h' o' F' N' hd'; (try dsimp only at N'))
  k_with "call ref" => (k_here; (with_reducible show wpAny _ _ (call (Value.ref 61) _) _ _ _); k_dflt ((refine' Con.use (state_con _ _) ?k1 ?k2 ?k3 ?k4 ?k5 ?kK ?kd ?ku ?_; (case k1 => k_asm); (case k2 => k_asm); (case k3 => k_asm); (case k4 => k_asm); (case k5 => k_asm); (case kK => first | exact rfl | assumption); (case kd => first | exact room1 hdp rfl | exact room0 hdp rfl | ktr_room); (case ku => first | exact room2 hun rfl | exact room3 hun rfl | ktr_units)); intro r9 nx9 h9 tk9 F9 N9 hP9; (refine hide fun P9 hX9 => ?_); (obtain ⟨e9, e8⟩ := hP9; subst e9; subst e8); (refine hX9 ?_); clear hX9; (try dsimp only); (try k_fold)))
  (unfold Con; intro dp un gd cn cs a ccd cl outer A₀ base h₀ L m sheap sgens sdrawn stoks sos Q E B F X N T hk hdp hun hret; refine wpAny_call ?_; k_dflt (refine' code_defL ?k1 ?k2 ?k3 ?k4 ?k5 ?kA ?kF ?kK ?k6 ?k7 ?k8 ?k9 ?kB ?_ ?c2 ?c3 ?c4 ?c5; (case kA => exact rfl); (case kF => exact rfl); (case kK => assumption); (case k1 => k_asm); (case k2 => k_asm); (case k3 => k_asm); (case k4 => k_asm); (case k5 => k_asm); (case k6 => k_is); (case k7 => k_is); (case k8 => first | exact Nat.lt_of_le_of_lt (Nat.le_add_right _ _) hdp | ktr_room); (case k9 => exact BindsTo.of_eq rfl); (case c5 => decide); (case kB => exact locs rfl); (case c2 => exact rfl); (case c3 => exact rfl); (case c4 => exact rfl); k_whole; intro g' L' h' tk' en' An' mm' FG' F' N' B' X' T' qq' ee'; (try dsimp only); (try k_lift B')))
  cases hn
  have hcl := hc.length
  k_steps
  refine Stop.mk ?_
  (refine' dictNew0 (PySem.intKind _ _) ?F ?N ?b ?_; (case F => k_asm); (case N => k_asm); (case b => exact Top.nolimit (by k_asm)))
  intro wd h3 o3 F3 N3 lwd lowd hdw
  k_steps
  refine Stop.mk ?_
  (refine' dictNew0 (PySem.intKind _ _) ?F ?N ?b ?_; (case F => k_asm); (case N => k_asm); (case b => exact Top.nolimit (by k_asm)))
  intro ud h5 o5 F5 N5 lud loud hdu
  k_steps
  refine Stop.mk ?_
  (refine' newList_K ?F ?N ?_; (case F => k_asm); (case N => k_asm))
  intro ra h6 F6 N6 lra
  k_steps
  have q1 : wd < ud := lud _ (.head _)
  have q2 : ud < ra := lra _ (.head _)
  have q3 : wd < ra := lra _ (.tail _ (.head _))
  have n1 : ∀ p ∈ news, p.1 ≠ wd := fun p hp => Nat.ne_of_lt (lwd p hp)
  have n2 : ∀ p ∈ news, p.1 ≠ ud := fun p hp => Nat.ne_of_lt (lud p (.tail _ hp))
  have n3 : ∀ p ∈ news, p.1 ≠ ra := fun p hp => Nat.ne_of_lt (lra p (.tail _ (.tail _ hp)))
  rename News _ _ _ _ => N7
  (try clear F3 N3); (try clear F5 N5); (try clear F6 N6)
  have l9 : ∀ q ∈ news, q.1 < ra := fun p hp => lra p (.tail _ (.tail _ hp))
  clear lwd lud lra
  refine Stop.mk ?_
  refine loopR (n := cvs.length) (mu₀ := [(ra, listOf ([] : List Value).toArray 0), (wd, o3)]) (G := (ud, o5) :: news) [(Str.ofString "count"), Str.ofString "net", Str.ofString "before"] (fun i mu => ∃ rvs n rs ow kw, mu = [(ra, listOf rvs.toArray n), (wd, ow)] ∧ IntsAre rvs rs ∧ Rdy ds i rs ∧ ow.IsDictOf (PySem.intKind prog w) kw ∧ kw.length ≤ i) rfl R9 rfl (le_eq hcl hl (by decide)) (by assumption) (fun p hp => N7 p ((List.forall_mem_cons.mpr ⟨.head _, List.forall_mem_cons.mpr ⟨.tail _ (.tail _ (.head _)), List.forall_mem_cons.mpr ⟨.tail _ (.head _), fun q hq => .tail _ (.tail _ (.tail _ hq))⟩⟩⟩) p hp))
    ⟨[], 0, [], o3, [], rfl, .nil, ⟨fun _ _ h => absurd h (Nat.not_lt_zero _), Nat.le_refl _⟩, hdw, Nat.le_refl _⟩ ?_ ?_
  · clear N7 hdw
    rintro i t u mu h tk own hi hoff hI9 F2 N2
    refine genT fun QQ hQQ => ?_
    obtain ⟨rvs, n, rs, ow, kw, rfl, hrv, hR, hdw, hkw⟩ := hI9
    have hvi := List.getElem?_eq_getElem hi
    generalize cvs[i] = v at hvi
    obtain ⟨c, hci, hcc⟩ := hc.at i v hvi
    have hok := ho c (List.mem_of_getElem? hci)
    cases hcc with
    | mk ca' ai kind out ins pd kt' ot' pv ivs m1 m2 hi2 hp =>
    have hvi' : cvs[((i : Int)).toNat]? = some (Value.ref ca') := hvi
    have hrl := hrv.length
    have hrl2 := hR.len
    have o1n : ∀ p ∈ own, p.1 ≠ wd := fun p hp => hoff p hp wd (by simp)
    have o2n : ∀ p ∈ own, p.1 ≠ ra := fun p hp => hoff p hp ra (by simp)
    simp only [List.cons_append, List.nil_append] at N2
    (try dsimp only)
    (try k_fold)
    k_steps
    · exact TE.toC hQQ [(ra, _), (wd, ow)] F9 N9 (off2 o2n o1n) ⟨rvs, n, rs, ow, kw, rfl, hrv, hR.skip hci (by assumption), hdw, Nat.le_succ_of_le hkw⟩ fr_base
    · refine Stop.mk ?_
      refine loopT (mu₀ := []) (G := _) (Str.ofString "net") [(Str.ofString "net"), Str.ofString "before"] (fun _ mu => mu = []) rfl rfl (by k_mem) (by assumption) N' rfl ?_ ?_
      · rintro I2 j v u mu h tk it2 hv hI2 hoff2 rfl F3 N3
        refine genA fun QQ hQQ => ?_
        obtain ⟨b, t, rfl, hbj⟩ := hi2.at j v hv
        have hbb := hok.2.1 j b hbj
        have hm1 := Int.emod_lt_of_pos (j : Int) (w_pos hW1)
        have hnone : valueAt kvs b = none := valueAt_none fun p hp e => ne_kv (hkv p hp) e hbb hm1
        clear N'
        simp only [List.nil_append] at N3
        (try dsimp only)
        (try k_fold)
        k_steps
        exact TE.to hQQ [] F' N' (fun _ _ _ h => nomatch h) rfl (fr_step (by decide) (fr_step (by decide) fr_base0))
      · rintro u mu h tk rfl F3 N3
        clear N'
        simp only [List.nil_append] at N3
        (try dsimp only)
        (try k_fold)
        k_steps
        rename News _ _ _ _ => N8
        (try simp only [List.push_toArray] at N8)
        exact TE.to hQQ [(ra, listOf (rvs ++ [Value.int (i : Int) _]).toArray (n + 1)), (wd, o')] (by assumption) N8 (off2 o2n o1n) ⟨_, _, rs ++ [(i : Int)], o', _, rfl, hrv.append (.cons _ _ .nil), hR.take, hd', Nat.le_trans (stored_len _ _ _) (Nat.succ_le_succ hkw)⟩ (fr_sub (by decide) (fr_step (by decide) fr_base))
  · rintro u mu h tk hI9 F2 N2
    refine hide fun P9 hX9 => ?_
    obtain ⟨rvs, n, rs, ow, kw, rfl, hrv, hR, hdw, hkw⟩ := hI9
    refine hX9 ?_
    clear hX9
    clear N7
    have hrl := hrv.length
    have hrl2 := hR.len
    have hR' : Rdy ds ds.length rs := hcl ▸ hR
    simp only [List.cons_append, List.nil_append] at N2
    (try dsimp only)
    (try k_fold)
    k_steps
    rename Fr _ _ _ _ => F3
    rename News _ _ _ _ => N3
    refine Stop.mk ?_
    refine ksw_while (σ := Int × Tok) (fun _ => (ra, listOf rvs.toArray n) :: (wd, ow) :: (ud, o5) :: news) (fun c => [((Str.ofString "turn"), Value.int c.1 c.2)]) (fun _ => True) [(Str.ofString "index")] (fun c => 0 ≤ c.1 ∧ c.1 ≤ (rs.length : Int)) (fun c => rs.length - c.1.toNat) (_, _) F3 N3 trivial (by intro p hp; rw [List.mem_singleton.mp hp]; rfl) ⟨Int.le_refl _, Int.natCast_nonneg _⟩ ?_
    clear F3 N3 F2
    rintro ⟨a, t⟩ u h tk _ ⟨ha0, ha1⟩ F4 N4
    dsimp only at F4 N4 ha0 ha1 ⊢
    (try k_fold)
    k_steps
    · refine Stop.mk ?_
      (refine' newList_K ?F ?N ?_; (case F => k_asm); (case N => k_asm))
      intro la h8 F8 N8 lla
      have hnone : ∀ k : Int, valueAt ([] : List (Int × Value)) k = none := fun _ => rfl
      k_steps
      refine Stop.mk ?_
      refine loopL (mu₀ := []) (G := _) [] (fun _ mu => mu = []) rfl List.mem_cons_self (by assumption) N8 rfl ?_ ?_
      · intro i v _ _ _ _ _ hv
        simp at hv
      · rintro u mu h tk rfl F5 N5
        clear N8 F8
        simp only [List.nil_append] at N5
        (try dsimp only)
        (try k_fold)
        k_steps
        refine ksw_end (a + 1, _) F' N' (fun p hp => .tail _ hp) trivial (by intro p hp; rw [List.mem_singleton.mp hp]; rfl) (fun z h1 h2 => frame_w2 h1 h2) (turn_up ha0 hrl (by assumption)).1 (turn_up ha0 hrl (by assumption)).2
    · rename News h₀ _ _ _ => N9
      refine hret _ _ _ _ (by k_asm) (fun p hp => N9 p ?_) ⟨ra, rvs, n, rs, rfl, rfl, hrv, hR', l9⟩
      rcases List.mem_cons.mp hp with h | h
      · rw [h]; exact .head _
      · exact .tail _ (.tail _ (.tail _ h))
end

end
section
open PySem PySem.W PyProof.Rows
section
variable {prog : Program} {w : World} {p : Program} {loose : List Str} {mean : ExcName → Option Value} {mg mb : Str → Option Value} {news : List (Addr × Obj)}
set_option maxRecDepth 100000 in
set_option maxHeartbeats 8000000 in
theorem lf_con (x ca : Addr) (count W : Int) (bits : List Int) (cvs : List Value) (ds : List CellD) (hn : NetIn news x count bits ca cvs) (hc : Rel2 (CellIn news) cvs ds) (hl : ds.length ≤ 4) (ho : ∀ c ∈ ds, c.Ok W)
    (hW : (bits.length : Int) = W) (hW1 : 1 ≤ W) (hW2 : W ≤ 70) (hb : ∀ (j : Nat) b, bits[j]? = some b → b = 2 + j) (hout : ∀ (i : Nat) c, ds[i]? = some c → c.out = 2 + W + i) :
    Con prog w p loose mean mg mb 6 208 [.ref x] news (fun r nx => ∃ fa n, r = .ref fa ∧ nx = (fa, listOf ([] : List Value).toArray n) :: news) := by
  w_top off; (have hfill : PySem.Challenge.rw_pq0453_01 = PySem.Challenge.rw_pq0453_01 ∧ hd.heap_39 = hd.heap_39 := (by k_fill; exact ⟨rfl, rfl⟩)); clear hfill
  k_with_none
  k_with "storeName" => (k_here; k_dflt (refine' storeL ?F ?N ?_ ?a ?b; (case F => k_asm); (case N => k_asm); (case a => rfl); (case b => rfl); k_whole; intro h' tk' mm' F' N'))
  k_with "pyIter ref" => ((with_reducible show wpAny _ _ (pyIter (Value.ref _)) (fun it s₂ => LoopAtV _ _ _ _ _ _ _ _ _ it s₂) _ _); refine Stop.out ?_)
  k_with "pyIter ref" => ((with_reducible show wpAny _ _ (pyIter (Value.ref _)) (fun it s₂ => TurnsAt _ _ _ _ _ _ _ _ _ it s₂) _ _); refine Stop.out ?_)
  k_with "exec For Name Call cons nil" => (refine Stop.out ?_)
  k_with "call type:range" => (k_here; k_dflt (refine' rangeR ?F ?N ?_; (case F => k_asm); (case N => k_asm)); intro r9 h9 tk9 t9 u9 v9 R9 F9 N9)
  k_with "newList" => (refine Stop.out ?_)
  k_with "eval Dict" => (refine Stop.out ?_)
  k_with "eval Dict nil nil" => (refine Stop.out ?_)
  k_with "subscriptTail" => (k_here; (with_reducible show wpAny _ _ (subscriptTail _ _ (Value.ref _) (Value.int _ _)) _ _ _); k_dflt (refine' itemT ?k1 ?k2 ?k3 ?k4 ?k5 ?_; (case k1 => k_asm); (case k2 => k_mem); (case k3 => decide); (case k4 => decide); (case k5 => exact rfl); k_whole))
  k_with "subscriptTail" => (k_here; (with_reducible show wpAny _ _ (subscriptTail _ _ (Value.ref _) (Value.int _ _)) _ _ _); k_dflt (refine' itemLx ?k1 ?k2 ?k3 ?k4 ?k5 ?_; (case k1 => k_asm); (case k2 => k_mem); (case k5 => assumption); (case k3 => first | exact Int.natCast_nonneg _ | omega); (case k4 => first | exact idx63 (by assumption) (by assumption) (by assumption) | omega); k_whole))
  k_with "call builtin:len" => (k_here; (with_reducible show wpAny _ _ (call (Value.builtin "len") [Value.ref _]) _ _ _); k_dflt (refine' lenL ?k1 ?k2 ?k3 ?k4 ?_; (case k1 => k_asm); (case k2 => k_mem); (case k3 => first | assumption | exact rfl); (case k4 => first | exact big2 (by assumption) (by assumption) (by decide) | exact big1 (by assumption) (by decide) | decide | omega); intro tk' tk''))
  k_with "setItem ref int" => (k_here; k_dflt (refine' kda_set (knd := PySem.intKind _ _) ?F ?N ?U ?d (intKind_is _ _ _ _) ?z ?_; (case F => k_asm); (case N => k_asm); (case U => k_updF); (case d => k_asm); (case z => first | exact zbig1 (by assumption) (by decide) | exact zbig2 (by assumption) (by assumption) (by assumption) (by decide) | exact zbig3 (by assumption) (by assumption) (by assumption) (by assumption) (by decide) | exact zbig4 (by assumption) (by assumption) (by assumption) (by assumption) | (rw [sizeLine_eq]; omega))); intro h' o' F' N' hd'; (try dsimp only at N'))
  k_with "compareOp NotIn int ref" => (k_here; k_dflt (refine' kdg_notin (knd := PySem.intKind _ _) ?N ?m ?d ?lo (intKind_is _ _ _ _) _ ?l ?_; (case N => k_asm); (case m => k_mem); (case d => k_asm); (case lo => assumption); (case l => exact hin9 (by assumption))))
  k_with "call ref" => (k_here; (with_reducible show wpAny _ _ (call (Value.ref 61) _) _ _ _); k_dflt ((refine' Con.use (state_con _ _) ?k1 ?k2 ?k3 ?k4 ?k5 ?kK ?kd ?ku ?_; (case k1 => k_asm); (case k2 => k_asm); (case k3 => k_asm); (case k4 => k_asm); (case k5 => k_asm); (case kK => first | exact rfl | assumption); (case kd => first | exact room1 hdp rfl | exact room0 hdp rfl | ktr_room); (case ku => first | exact room2 hun rfl | exact room3 hun rfl | ktr_units)); intro r9 nx9 h9 tk9 F9 N9 hP9; (refine hide fun P9 hX9 => ?_); (obtain ⟨e9, e8⟩ := hP9; subst e9; subst e8); (refine hX9 ?_); clear hX9; (try dsimp only); (try k_fold)))
  k_with "call ref" => (k_here; (with_reducible show wpAny _ _ (call (Value.ref 152) _) _ _ _); k_dflt ((refine' Con.use (drv_con x ca count W bits cvs ds ?q1 ?q2 hl hW hW1 hW2 hb hout) ?k1 ?k2 ?k3 ?k4 ?k5 ?kK ?kd ?ku ?_; (case k1 => k_asm); (case k2 => k_asm); (case k3 => k_asm); (case k4 => k_asm); (case k5 => k_asm); (case kK => first | exact rfl | assumption); (case q1 => exact NetIn.mono hn' (by intro p9 hp9; k_mem)); (case q2 => exact Rel2.mono hc fun v a r => CellIn.mono r (by intro p9 hp9; k_mem)); (case kd => first | exact room1 hdp rfl | exact room0 hdp rfl | ktr_room); (case ku => first | exact room2 hun rfl | exact room3 hun rfl | ktr_units)); intro r9 nx9 h9 tk9 F9 N9 hP9; (refine hide fun P9 hX9 => ?_); (obtain ⟨d8, o8, kv8, e9, e8, hd8, lo8, hk8, ld8⟩ := hP9; subst e9; subst e8); (refine hX9 ?_); clear hX9; (try dsimp only); (try k_fold)))
  k_with "call ref" => (k_here; (with_reducible show wpAny _ _ (call (Value.ref 159) _) _ _ _); k_dflt ((refine' Con.use (ord_con x ca d8 o8 kv8 count W bits cvs ds ?q1 ?q2 hl ho hW1 ?q3 hd8 lo8 hk8) ?k1 ?k2 ?k3 ?k4 ?k5 ?kK ?kd ?ku ?_; (case k1 => k_asm); (case k2 => k_asm); (case k3 => k_asm); (case k4 => k_asm); (case k5 => k_asm); (case kK => first | exact rfl | assumption); (case q1 => exact NetIn.mono hn' (by intro p9 hp9; k_mem)); (case q2 => exact Rel2.mono hc fun v a r => CellIn.mono r (by intro p9 hp9; k_mem)); (case q3 => k_mem); (case kd => first | exact room1 hdp rfl | exact room0 hdp rfl | ktr_room); (case ku => first | exact room2 hun rfl | exact room3 hun rfl | ktr_units)); intro r9 nx9 h9 tk9 F9 N9 hP9; (refine hide fun P9 hX9 => ?_); (obtain ⟨ra, rvs, n8, rs, e9, e8, hrv, hR, lra⟩ := hP9; subst e9; subst e8); (refine hX9 ?_); clear hX9; (try dsimp only); (try k_fold)))
  (unfold Con; intro dp un gd cn cs a ccd cl outer A₀ base h₀ L m sheap sgens sdrawn stoks sos Q E B F X N T hk hdp hun hret; refine wpAny_call ?_; k_dflt (refine' code_defL ?k1 ?k2 ?k3 ?k4 ?k5 ?kA ?kF ?kK ?k6 ?k7 ?k8 ?k9 ?kB ?_ ?c2 ?c3 ?c4 ?c5; (case kA => exact rfl); (case kF => exact rfl); (case kK => assumption); (case k1 => k_asm); (case k2 => k_asm); (case k3 => k_asm); (case k4 => k_asm); (case k5 => k_asm); (case k6 => k_is); (case k7 => k_is); (case k8 => first | exact Nat.lt_of_le_of_lt (Nat.le_add_right _ _) hdp | ktr_room); (case k9 => exact BindsTo.of_eq rfl); (case c5 => decide); (case kB => exact locs rfl); (case c2 => exact rfl); (case c3 => exact rfl); (case c4 => exact rfl); k_whole; intro g' L' h' tk' en' An' mm' FG' F' N' B' X' T' qq' ee'; (try dsimp only); (try k_lift B')))
  have hn' := hn
  cases hn
  have hcl := hc.length
  k_steps
  refine Stop.mk ?_
  (refine' dictNew0 (PySem.intKind _ _) ?F ?N ?b ?_; (case F => k_asm); (case N => k_asm); (case b => exact Top.nolimit (by k_asm)))
  intro od h3 o3 F3 N3 lod lood hdo
  k_steps
  refine Stop.mk ?_
  (rename Fr _ _ _ _ => lF')
  k_dflt (refine' For_turns lF' ?_; k_whole)
  k_steps
  have n1 : ∀ p ∈ news, p.1 ≠ od := fun p hp => Nat.ne_of_lt (lod p hp)
  rename News _ _ _ _ => N5
  have hrl := hrv.length
  have hrl2 := hR.len
  have q1 : od < d8 := ld8 _ (.head _)
  have q2 : od < ra := lra _ (.tail _ (.head _))
  refine Stop.mk ?_
  refine loopLT (mu₀ := [(od, o3)]) (G := (ra, listOf rvs.toArray n8) :: (d8, o8) :: news) (Str.ofString "index") [(Str.ofString "index")] (fun i mu => ∃ o ks, mu = [(od, o)] ∧ o.IsDictOf (PySem.intKind prog w) ks ∧ ks.length ≤ i ∧ ∀ j r, j < i → rs[j]? = some r → ∃ p ∈ ks, p.1 = r) rfl rfl List.mem_cons_self (by assumption) (fun p hp => N5 p (by simp only [List.mem_append, List.mem_cons, List.not_mem_nil, or_false] at hp ⊢; rcases hp with h | h | h | h <;> simp [h]))
    ⟨o3, [], rfl, hdo, Nat.le_refl _, fun _ _ h => absurd h (Nat.not_lt_zero _)⟩ ?_ ?_
  · rintro I1 i v u mu h tk it hv hI1 hoff hI9 F2 N2
    refine genA fun QQ hQQ => ?_
    obtain ⟨o1, k1, rfl, hd1, hkl, hk1⟩ := hI9
    obtain ⟨b, t, rfl, hbj⟩ := hrv.at i v hv
    have hil : i < rs.length := (List.getElem?_eq_some_iff.mp hbj).1
    have r1 : od < I1 := hI1 _ List.mem_cons_self
    clear N5
    simp only [List.cons_append, List.nil_append] at N2
    (try dsimp only)
    (try k_fold)
    k_steps
    exact TE.to hQQ [(od, o')] F' N' (off1 r1) ⟨o', _, rfl, hd', Nat.le_trans (stored_len _ _ _) (by first | exact Nat.succ_le_succ hkl | omega), fun j r hj hr => stored_has (by
      by_cases e : j = i
      · subst e; rw [hbj] at hr; exact .inr (Option.some.inj hr).symm
      · exact .inl (hk1 j r (by omega) hr))⟩ (fr_step (by decide) fr_base0)
  · rintro u mu h tk hI9 F2 N2
    refine hide fun P9 hX9 => ?_
    obtain ⟨o1, k1, rfl, hd1, hkl, hk1⟩ := hI9
    refine hX9 ?_
    clear hX9
    clear N5
    simp only [List.cons_append, List.nil_append] at N2
    (try dsimp only)
    (try k_fold)
    k_steps
    refine Stop.mk ?_
    (refine' newList_K ?F ?N ?_; (case F => k_asm); (case N => k_asm))
    intro fa h6 F6 N6 lfa
    k_steps
    refine Stop.mk ?_
    (rename Fr _ _ _ _ => lF')
    k_dflt (refine' For_invVF lF' ?k1 ?k2 ?_; (case k1 => exact rfl); (case k2 => exact rfl); k_whole)
    k_steps
    refine Stop.mk ?_
    refine loopR (n := cvs.length) (mu₀ := []) (G := _) [(Str.ofString "cell")] (fun _ mu => mu = []) rfl R9 rfl (by first | exact le_eq (by assumption) hl (by decide) | omega) F9 N9 rfl ?_ ?_
    · rintro i t u mu h tk own hi hoff rfl F7 N7
      refine genT fun QQ hQQ => ?_
      have hvi := List.getElem?_eq_getElem hi
      generalize cvs[i] = v at hvi
      obtain ⟨c, hci, hcc⟩ := hc.at i v hvi
      have hRi := hR.all i c (List.getElem?_eq_some_iff.mp hci).1 hci
      cases hcc with
      | mk ca' ai kind out ins pd kt' ot' pv ivs m1 m2 hi2 hp =>
      have hvi' : cvs[((i : Int)).toNat]? = some (Value.ref ca') := hvi
      have hin9 : isSt kind = false → (valueAt k1 (i : Int)).isSome = true := by
        intro a
        obtain ⟨j, hj⟩ := List.getElem?_of_mem (hRi a)
        exact valueAt_isSome (hk1 j _ (by have := (List.getElem?_eq_some_iff.mp hj).1; omega) hj)
      clear N9 F6 N6
      simp only [List.nil_append] at N7
      (try dsimp only)
      (try k_fold)
      k_steps
      all_goals exact TE.to hQQ [] F9 N9 (fun _ _ _ h => nomatch h) rfl (fr_step (by decide) fr_base)
    · rintro u mu h tk rfl F7 N7
      clear N9 F6 N6
      simp only [List.nil_append] at N7
      (try dsimp only)
      (try k_fold)
      k_steps
      rename News h₀ _ _ _ => N8
      refine hret _ _ _ _ (by k_asm) (fun p hp => N8 p ?_) ⟨fa, 0, rfl, rfl⟩
      rcases List.mem_cons.mp hp with h | h
      · rw [h]; exact .head _
      · exact .tail _ (.tail _ (.tail _ (.tail _ h)))
end

end
section
open PySem PySem.W PyProof.Rows PySem.Calls PySem.Spec
section
variable {prog : Program} {w : World} {A : Around} {E : Value → Shared → Prop} {hp : Heap} {gn : Array GenState} {dr : Drawn} {st : Nat} {os : OsState} {h₀ : Heap} {L : Addr} {m : Str → Option Value} {news : List (Addr × Obj)} {κ : SortKind}
/-- a list and the empty list -/
theorem addE {l b : Addr} {vs : List Value} {n n' : Nat} {Q : Value → Shared → Prop} (F : Fr h₀ L hp m) (N : News h₀ L hp news) (hm : (l, listOf vs.toArray n) ∈ news) (hb : (b, listOf ([] : List Value).toArray n') ∈ news) (hz : vs.length ≤ 1000)
    (h : ∀ D h', Fr h₀ L h' m → News h₀ L h' ((D, listOf vs.toArray 0) :: news) → (∀ q ∈ news, q.1 < D) → Q (.ref D) ⟨h', gn, dr, st, os⟩) :
    wpAny (model prog w) A (binaryOp .Add (.ref l) (.ref b)) Q E ⟨hp, gn, dr, st, os⟩ := by
  refine add_lists (hsz := by rw [sizeLine_eq, List.length_nil]; omega) F N (N.isList hm) (N.isList hb) fun h' F' N' => ?_
  rw [List.append_nil] at N'
  exact h _ h' F' N' fun q hq => Heap.lt_size (N q hq).1
theorem sortedL {l : Addr} {vs : List Value} {n : Nat} {Q : Value → Shared → Prop} (F : Fr h₀ L hp m) (N : News h₀ L hp news) (hm : (l, listOf vs.toArray n) ∈ news) (hz : vs.length ≤ 1000)
    (as : ∀ s : Shared, (∀ p ∈ news, s.heap.get? p.1 = some p.2) → AscAt prog w A.in1.in1 κ vs s)
    (h : ∀ B h' e, Fr h₀ L h' m → News h₀ L h' ((B, listOf vs.toArray e) :: news) → (∀ q ∈ news, q.1 < B) → Q (.ref B) ⟨h', gn, dr, st, os⟩) :
    wpAny (model prog w) A (call (.builtin "sorted") [.ref l]) Q E ⟨hp, gn, dr, st, os⟩ := by
  refine call_function_entry kind_sorted plain_sorted entry_sorted (args_sorted1 _) ?_
  unfold Builtin.«sorted»
  refine wpAny_bind (m := checkCount "sorted" 1 1 _) (wpAny_pure ?_)
  refine wpAny_bind (collect_list (N.isList hm) ?_ (by rw [sizeLine_eq]; omega))
  refine wpAny_bind (wpAny_newList ?_ (by rw [sizeLine_eq]; omega))
  let h1 := (hp.push (seqObj "list" #[] 0)).update hp.objs.size (Obj.mapSeq (· ++ vs.toArray))
  have keep : ∀ b o, hp.get? b = some o → h1.get? b = some o := fun b o q =>
    (Heap.get?_update_ne _ _ _ _ (Nat.ne_of_lt (Heap.lt_size q))).trans ((Heap.get?_push_ne _ _ _ (Nat.ne_of_lt (Heap.lt_size q))).trans q)
  have hg := F.kept keep
  have ng : News h₀ L h1 news := N.grown keep
  have l1 : ∀ q ∈ news, q.1 < h1.objs.size := fun q hq => Heap.lt_size (ng q hq).1
  have hB := sortB (prog := prog) (w := w) (A := A.in1) (E := E) (gn := gn) (dr := dr) (st := st) (os := os) (n := 0) (hg.push (listOf vs.toArray 0)) (News.push hg ng _ rfl) (fun p hp => Nat.ne_of_lt (l1 p hp)) hz (fun k => as _ k)
    (Q := fun _ s' => Q (.ref h1.objs.size) s') (fun h' e F' N' => h _ h' e F' N' l1)
  exact wpAny_bind (wpAny_holding (wpAny_mono hB (fun _ _ x => wpAny_pure ⟨_, rfl, x⟩) fun _ _ x => x))
end
theorem Rel2.none {α : Type} {R S : Value → α → Prop} {vs : List Value} {as : List α} (h : Rel2 R vs as) (e : (vs.length : Int) = 0) : Rel2 S [] as := by
  cases h with
  | nil => exact .nil
  | cons _ _ => simp at e; omega
theorem dueOf_asc {W : Int} : ∀ (ds : List CellD) (b : Int), (∀ (i : Nat) c, ds[i]? = some c → c.out = b + i) → (dueOf ds).Pairwise (· < ·) ∧ ∀ o ∈ dueOf ds, b ≤ o
  | [], _, _ => ⟨.nil, fun _ h => nomatch h⟩
  | c :: r, b, h => by
    have ih := dueOf_asc (W := W) r (b + 1) fun i c' e => by rw [h (i + 1) c' (by simpa using e)]; omega
    have h0 := h 0 c rfl
    have e : dueOf (c :: r) = (if c.fits then [] else [c.out]) ++ dueOf r := by
      unfold dueOf
      rw [List.filter_cons]
      cases hf : c.fits <;> simp
    rw [e]
    cases hf : c.fits
    · refine ⟨.cons (fun o ho => ?_) ih.1, fun o ho => ?_⟩
      · have := ih.2 o ho; omega
      · rcases List.mem_cons.mp ho with rfl | ho
        · omega
        · have := ih.2 o ho; omega
    · exact ⟨ih.1, fun o ho => by have := ih.2 o ho; omega⟩
def CkPost (ds : List CellD) (news : List (Addr × Obj)) (r : Value) (nx : List (Addr × Obj)) : Prop :=
  ∃ ra vs n own, r = .ref ra ∧ nx = (ra, listOf vs.toArray n) :: (own ++ news) ∧ Rel2 (FaultIn nx) vs (dueOf ds)
section
variable {prog : Program} {w : World} {p : Program} {loose : List Str} {mean : ExcName → Option Value} {mg mb : Str → Option Value} {news : List (Addr × Obj)}
set_option maxRecDepth 100000 in
set_option maxHeartbeats 8000000 in
theorem ck_con (x ca : Addr) (count W : Int) (bits : List Int) (cvs : List Value) (ds : List CellD) (q : Nat → Str) (hn : NetIn news x count bits ca cvs) (hc : Rel2 (CellIn news) cvs ds) (hl : ds.length ≤ 4) (ho : ∀ c ∈ ds, c.Ok W)
    (hW : (bits.length : Int) = W) (hW1 : 1 ≤ W) (hW2 : W ≤ 70) (hb : ∀ (j : Nat) b, bits[j]? = some b → b = 2 + j) (hout : ∀ (i : Nat) c, ds[i]? = some c → c.out = 2 + W + i) (hcount : count = 2 + W + ds.length)
    (hq : ∀ (i : Nat) c, ds[i]? = some c → isSt c.kind = true → c.fits = true → nameOf c.pd = q i) (hqi : ∀ i j, i < 4 → j < 4 → q i = q j → i = j) :
    Con prog w p loose mean mg mb 8 215 [.ref x] news (CkPost ds news) := by
  w_top off; (have hfill : PySem.Challenge.rw_pq0453_01 = PySem.Challenge.rw_pq0453_01 ∧ hd.heap_39 = hd.heap_39 := (by k_fill; exact ⟨rfl, rfl⟩)); clear hfill
  k_with_none
  k_with "storeName" => (k_here; k_dflt (refine' storeL ?F ?N ?_ ?a ?b; (case F => k_asm); (case N => k_asm); (case a => rfl); (case b => rfl); k_whole; intro h' tk' mm' F' N'))
  k_with "call builtin:len" => (k_here; (with_reducible show wpAny _ _ (call (Value.builtin "len") [Value.ref _]) _ _ _); k_dflt (refine' lenL ?k1 ?k2 ?k3 ?k4 ?_; (case k1 => k_asm); (case k2 => k_mem); (case k3 => first | assumption | exact rfl); (case k4 => first | exact big2 (by assumption) (by assumption) (by decide) | exact big1 (by assumption) (by decide) | decide | omega); intro tk' tk''))
  k_with "binaryOp Add ref ref" => (k_here; k_dflt (refine' addE ?F ?N ?a ?b ?z ?_; (case F => k_asm); (case N => k_asm); (case a => k_mem); (case b => k_mem); (case z => omega)); intro D9 h9 F9 N9 l9)
  k_with "call builtin:sorted" => (refine Stop.out ?_)
  k_with "call ref" => (k_here; (with_reducible show wpAny _ _ (call (Value.ref 187) _) _ _ _); k_dflt ((refine' Con.use (cf_con x ca count W bits cvs ds ?q1 ?q2 hl ho) ?k1 ?k2 ?k3 ?k4 ?k5 ?kK ?kd ?ku ?_; (case k1 => k_asm); (case k2 => k_asm); (case k3 => k_asm); (case k4 => k_asm); (case k5 => k_asm); (case kK => first | exact rfl | assumption); (case q1 => exact NetIn.mono hn (by intro p9 hp9; k_mem)); (case q2 => exact Rel2.mono hc fun v a r => CellIn.mono r (by intro p9 hp9; k_mem)); (case kd => first | exact room1 hdp rfl | exact room0 hdp rfl | ktr_room); (case ku => first | exact room2 hun rfl | exact room3 hun rfl | ktr_units)); intro r9 nx9 h9 tk9 F9 N9 hP9; (refine hide fun P9 hX9 => ?_); (obtain ⟨fa, fvs, n8, own, e9, e8, hR⟩ := hP9; subst e9; subst e8; have hfl := hR.length); (refine hX9 ?_); clear hX9; (try dsimp only); (try k_fold)))
  k_with "call ref" => (k_here; (with_reducible show wpAny _ _ (call (Value.ref 194) _) _ _ _); k_dflt ((refine' Con.use (nf_con x ca count W bits cvs ds ?q1 ?q2 hl ho hW hW1 hW2 hb hout hcount) ?k1 ?k2 ?k3 ?k4 ?k5 ?kK ?kd ?ku ?_; (case k1 => k_asm); (case k2 => k_asm); (case k3 => k_asm); (case k4 => k_asm); (case k5 => k_asm); (case kK => first | exact rfl | assumption); (case q1 => exact NetIn.mono hn (by intro p9 hp9; k_mem)); (case q2 => exact Rel2.mono hc fun v a r => CellIn.mono r (by intro p9 hp9; k_mem)); (case kd => first | exact room1 hdp rfl | exact room0 hdp rfl | ktr_room); (case ku => first | exact room2 hun rfl | exact room3 hun rfl | ktr_units)); intro r9 nx9 h9 tk9 F9 N9 hP9; (refine hide fun P9 hX9 => ?_); (obtain ⟨fb, n7, e9, e8⟩ := hP9; subst e9; subst e8); (refine hX9 ?_); clear hX9; (try dsimp only); (try k_fold)))
  k_with "call ref" => (k_here; (with_reducible show wpAny _ _ (call (Value.ref 201) _) _ _ _); k_dflt ((refine' Con.use (nm_con x ca count bits cvs ds q ?q1 ?q2 hl hil hq hqi) ?k1 ?k2 ?k3 ?k4 ?k5 ?kK ?kd ?ku ?_; (case k1 => k_asm); (case k2 => k_asm); (case k3 => k_asm); (case k4 => k_asm); (case k5 => k_asm); (case kK => first | exact rfl | assumption); (case q1 => exact NetIn.mono hn (by intro p9 hp9; k_mem)); (case q2 => exact Rel2.mono hc fun v a r => CellIn.mono r (by intro p9 hp9; k_mem)); (case kd => first | exact room1 hdp rfl | exact room0 hdp rfl | ktr_room); (case ku => first | exact room2 hun rfl | exact room3 hun rfl | ktr_units)); intro r9 nx9 h9 tk9 F9 N9 hP9; (refine hide fun P9 hX9 => ?_); (obtain ⟨fc, n6, e9, e8⟩ := hP9; subst e9; subst e8); (refine hX9 ?_); clear hX9; (try dsimp only); (try k_fold)))
  k_with "call ref" => (k_here; (with_reducible show wpAny _ _ (call (Value.ref 208) _) _ _ _); k_dflt ((refine' Con.use (lf_con x ca count W bits cvs ds ?q1 ?q2 hl ho hW hW1 hW2 hb hout) ?k1 ?k2 ?k3 ?k4 ?k5 ?kK ?kd ?ku ?_; (case k1 => k_asm); (case k2 => k_asm); (case k3 => k_asm); (case k4 => k_asm); (case k5 => k_asm); (case kK => first | exact rfl | assumption); (case q1 => exact NetIn.mono hn (by intro p9 hp9; k_mem)); (case q2 => exact Rel2.mono hc fun v a r => CellIn.mono r (by intro p9 hp9; k_mem)); (case kd => first | exact room1 hdp rfl | exact room0 hdp rfl | ktr_room); (case ku => first | exact room2 hun rfl | exact room3 hun rfl | ktr_units)); intro r9 nx9 h9 tk9 F9 N9 hP9; (refine hide fun P9 hX9 => ?_); (obtain ⟨fd, n5, e9, e8⟩ := hP9; subst e9; subst e8); (refine hX9 ?_); clear hX9; (try dsimp only); (try k_fold)))
  have hil : ∀ c ∈ ds, c.ins.length ≤ 70 := fun c h => (ho c h).1
  have hdl := dueOf_len ds
  have hda := (dueOf_asc (W := W) ds (2 + W) hout).1
  (unfold Con; intro dp un gd cn cs a ccd cl outer A₀ base h₀ L m sheap sgens sdrawn stoks sos Q E B F X N T hk hdp hun hret; refine wpAny_call ?_; k_dflt (refine' code_defL ?k1 ?k2 ?k3 ?k4 ?k5 ?kA ?kF ?kK ?k6 ?k7 ?k8 ?k9 ?kB ?_ ?c2 ?c3 ?c4 ?c5; (case kA => exact rfl); (case kF => exact rfl); (case kK => assumption); (case k1 => k_asm); (case k2 => k_asm); (case k3 => k_asm); (case k4 => k_asm); (case k5 => k_asm); (case k6 => k_is); (case k7 => k_is); (case k8 => first | exact Nat.lt_of_le_of_lt (Nat.le_add_right _ _) hdp | ktr_room); (case k9 => exact BindsTo.of_eq rfl); (case c5 => decide); (case kB => exact locs rfl); (case c2 => exact rfl); (case c3 => exact rfl); (case c4 => exact rfl); k_whole; intro g' L' h' tk' en' An' mm' FG' F' N' B' X' T' qq' ee'; (try dsimp only); (try k_lift B')))
  k_steps
  · refine Stop.mk ?_
    refine sortedL (κ := oneType') (vs := []) F' N' List.mem_cons_self (Nat.zero_le _) (fun s _ => AscAt.ints .nil .nil) ?_
    intro ra h9 e F9 N9 l9
    clear N'
    k_steps
    rename News h₀ _ _ _ => N8
    refine hret _ _ _ _ (by k_asm) (fun p hp => N8 p ?_) ⟨ra, [], e, own, rfl, rfl, hR.none (by omega)⟩
    rcases List.mem_cons.mp hp with h | h
    · rw [h]; exact .head _
    · exact .tail _ (.tail _ (.tail _ (.tail _ (.tail _ (.tail _ (.tail _ h))))))
  · refine Stop.mk ?_
    refine sortedL (κ := tuples' true) F' N' List.mem_cons_self (by omega) (fun s hs => AscAt.faults hR (fun p hp => hs p (.tail _ (.tail _ (.tail _ (.tail _ hp))))) hda) ?_
    intro ra h9 e F9 N9 l9
    clear N'
    k_steps
    rename News h₀ _ _ _ => N8
    refine hret _ _ _ _ (by k_asm) (fun p hp => N8 p ?_) ⟨ra, fvs, e, (fa, listOf fvs.toArray n8) :: own, rfl, rfl, hR.mono fun v a r => FaultIn.mono r ?_⟩
    · rcases List.mem_cons.mp hp with h | h
      · rw [h]; exact .head _
      · exact .tail _ (.tail _ (.tail _ (.tail _ (.tail _ h))))
    · exact fun p hp => .tail _ hp
end

end
section
open PySem PySem.W PyProof.Rows
/-- the tables that the law makes -/
inductive TabL (news : List (Addr × Obj)) : Value → Dat → Prop
  | none : TabL news .none .none
  | int (i : Int) (t : Tok) : TabL news (.int i t) (.int i)
  | five (t : Tok) : TabL news (.str (Str.ofString "5") t) (.str (Str.ofString "5"))
  | nil (a : Addr) : (a, tupO []) ∈ news → TabL news (.ref a) (.tuple [])
  | c1 (a : Addr) (t u : Tok) : (a, tupO [.str (Str.ofString "C") t, .int 1 u]) ∈ news → TabL news (.ref a) (.tuple [.str (Str.ofString "C"), .int 1])
theorem pow2_nn (n : Nat) : (0 : Int) ≤ 2 ^ n := Int.le_of_lt (Int.pow_pos (by decide))
theorem pow2_cast (n : Nat) : (2 : Int) ^ n = ((2 ^ n : Nat) : Int) := (Int.natCast_pow 2 n).symm
theorem pow2_le {n m : Nat} (h : n ≤ m) : (2 : Int) ^ n ≤ 2 ^ m := by
  rw [pow2_cast, pow2_cast]
  exact Int.ofNat_le.mpr (Nat.pow_le_pow_right (by decide) h)
theorem bits_le {i : Int} {n : Nat} (h : 0 ≤ i) : PySem.Builtin.Int.intBits i ≤ n ↔ i < 2 ^ n := by
  obtain ⟨k, rfl⟩ := Int.eq_ofNat_of_zero_le h
  rw [pow2_cast, Int.ofNat_lt]
  unfold PySem.Builtin.Int.intBits
  by_cases e : k = 0
  · subst e
    simp [Nat.pow_pos]
  · rw [if_neg (by simpa using e), Int.natAbs_natCast, ← Nat.log2_lt e]
    exact Iff.rfl
theorem isTab_lt {i : Int} (wd : Int) (h : 0 ≤ i) : isTab (.int i) wd = decide (i < 2 ^ ((2 : Int) ^ wd.toNat).toNat) := by
  show (decide (0 ≤ i) && decide ((PySem.Builtin.Int.intBits i : Int) ≤ 2 ^ wd.toNat)) = _
  rw [decide_eq_true h, Bool.true_and, pow2_cast, Int.toNat_natCast]
  exact decide_eq_decide.mpr (Int.ofNat_le.trans (bits_le h))
theorem isTab_neg {i : Int} (wd : Int) (h : i < 0) : isTab (.int i) wd = false := by
  show (decide (0 ≤ i) && _) = _
  rw [decide_eq_false (by omega), Bool.false_and]
theorem isTab_big {i : Int} {wd : Int} (h : 0 ≤ i) (hw : 5 < wd) (hb : i < 2 ^ 64) : isTab (.int i) wd = true := by
  rw [isTab_lt wd h, pow2_cast wd.toNat, Int.toNat_natCast]
  refine decide_eq_true (Int.lt_of_lt_of_le hb (pow2_le ?_))
  exact Nat.le_trans (by decide : 64 ≤ 2 ^ 6) (Nat.pow_le_pow_right (by decide) (by omega))
theorem pow2_le5 {n : Nat} (h : n ≤ 5) : (2 : Int) ^ n ≤ 1000000 := Int.le_trans (pow2_le h) (by decide)
section
variable {prog : Program} {w : World} {p : Program} {loose : List Str} {mean : ExcName → Option Value} {mg mb : Str → Option Value} {news : List (Addr × Obj)}
set_option maxRecDepth 100000 in
set_option maxHeartbeats 8000000 in
theorem lfits_con (v : Value) (d : Dat) (wt : Tok) (wd : Int) (h0 : 0 ≤ wd) (h1 : wd ≤ 70) (hv : TabL news v d) (hbig : ∀ i, d = .int i → 5 < wd → i < 2 ^ 64) : Con prog w p loose mean mg mb 10 236 [v, .int wd wt] news (fun r nx => nx = news ∧ r = .bool (isTab d wd)) := by
  w_top off; (have hfill : PySem.Challenge.rw_pq0453_01 = PySem.Challenge.rw_pq0453_01 ∧ hd.heap_39 = hd.heap_39 := (by k_fill; exact ⟨rfl, rfl⟩)); clear hfill
  k_with_none
  k_with "binaryOp Pow int int" => ((with_reducible refine pow_int_small ?_ ?_ ?_ ?_) <;> first | decide | exact Int.le_trans (by assumption) (by decide) | omega | exact pow2_nn _ | (refine pow2_le5 ?_; omega) | skip)
  k_with "compareOp Eq int ref" => (k_here; k_dflt (refine' eq_dataH ?a ?b ?c ?d ?e ?_; (case a => ke_read); (case b => ke_read); (case c => ke_shaped); (case d => ke_shaped); (case e => (show un + _ + 64 < cLine; omega)); k_whole); ke_norm)
  k_with "compareOp Eq str ref" => (k_here; k_dflt (refine' eq_dataH ?a ?b ?c ?d ?e ?_; (case a => ke_read); (case b => ke_read); (case c => ke_shaped); (case d => ke_shaped); (case e => (show un + _ + 64 < cLine; omega)); k_whole); ke_norm)
  k_with "compareOp Eq ref ref" => (k_here; k_dflt (refine' eq_dataH ?a ?b ?c ?d ?e ?_; (case a => ke_read); (case b => ke_read); (case c => ke_shaped); (case d => ke_shaped); (case e => (show un + _ + 64 < cLine; omega)); k_whole); ke_norm)
  k_with "compareOp Eq ref str" => (k_here; k_dflt (refine' eq_dataH ?a ?b ?c ?d ?e ?_; (case a => ke_read); (case b => ke_read); (case c => ke_shaped); (case d => ke_shaped); (case e => (show un + _ + 64 < cLine; omega)); k_whole); ke_norm)
  (unfold Con; intro dp un gd cn cs a ccd cl outer A₀ base h₀ L m sheap sgens sdrawn stoks sos Q E B F X N T hk hdp hun hret; refine wpAny_call ?_; k_dflt (refine' code_defL ?k1 ?k2 ?k3 ?k4 ?k5 ?kA ?kF ?kK ?k6 ?k7 ?k8 ?k9 ?kB ?_ ?c2 ?c3 ?c4 ?c5; (case kA => exact rfl); (case kF => exact rfl); (case kK => assumption); (case k1 => k_asm); (case k2 => k_asm); (case k3 => k_asm); (case k4 => k_asm); (case k5 => k_asm); (case k6 => k_is); (case k7 => k_is); (case k8 => first | exact Nat.lt_of_le_of_lt (Nat.le_add_right _ _) hdp | ktr_room); (case k9 => exact BindsTo.of_eq rfl); (case c5 => decide); (case kB => exact locs rfl); (case c2 => exact rfl); (case c3 => exact rfl); (case c4 => exact rfl); k_whole; intro g' L' h' tk' en' An' mm' FG' F' N' B' X' T' qq' ee'; (try dsimp only); (try k_lift B')))
  cases hv
  all_goals k_steps
  all_goals refine hret _ _ _ _ (by k_asm) (cb_drop (by k_asm) (by intro q9 hq9; first | exact hq9 | exact .tail _ hq9 | exact .tail _ (.tail _ hq9))) ⟨rfl, congrArg Value.bool ?_⟩
  all_goals first
    | rfl
    | exact (isTab_neg _ (by assumption)).symm
    | (refine (decide_eq_true (by assumption)).trans (isTab_big (Int.not_lt.mp (by assumption)) (by assumption) (hbig _ rfl (by assumption))).symm)
    | exact (isTab_lt _ (Int.not_lt.mp (by assumption))).symm
end

end
section
open PySem PySem.W PyProof.Rows
section
variable {prog : Program} {w : World} {A : Around} {E : Value → Shared → Prop} {hp : Heap} {gn : Array GenState} {dr : Drawn} {st : Nat} {os : OsState} {h₀ : Heap} {L : Addr} {news : List (Addr × Obj)}
/-- an item of the drops -/
theorem itemI {value slice : Expr} {l : Addr} {vs : List Value} {ns : List Int} {n : Nat} {k : Int} {u : Tok} {Q : Value → Shared → Prop} (N : News h₀ L hp news) (hm : (l, listOf vs.toArray n) ∈ news)
    (hI : IntsAre vs ns) (hr : ns.length = 30 ∧ ∀ x ∈ ns, 0 ≤ x ∧ x < 4096) (h0 : 0 ≤ k) (h1 : k < 30) (h : ∀ b t, 0 ≤ b → b < 4096 → Q (.int b t) ⟨hp, gn, dr, st, os⟩)
    (hs : subscripted slice false (.ref l) (.int k u) = operate [.ref l, .int k u] (getItem (.ref l) (.int k u)) := by with_unfolding_all rfl) :
    wpAny (model prog w) A (subscriptTail value slice (.ref l) (.int k u)) Q E ⟨hp, gn, dr, st, os⟩ := by
  have hl := hI.length
  refine itemL N hm h0 (by omega) (by omega) (fun v hv => ?_) hs
  obtain ⟨b, t, rfl, hb⟩ := hI.at k.toNat v hv
  have := hr.2 b (List.mem_of_getElem? hb)
  exact h b t this.1 this.2
end
section
variable {prog : Program} {w : World} {A : Around} {E : Value → Shared → Prop} {hp : Heap} {gn : Array GenState} {dr : Drawn} {st : Nat} {os : OsState} {h₀ : Heap} {news : List (Addr × Obj)} {cn : Str} {cs : Scope} {L a : Addr} {ccd : Value} {cl : List (Str × Addr)} {mm : Str → Option Value}
/-- drops[spot + c] % m -/
theorem evDM {c m sp : Int} {p1 p2 p3 p4 p5 p6 p7 : Pos} {k1 k2 : Tok} {D : Addr} {n : Nat} {dvs : List Value} {ns : List Int} {u : Tok} {Q : Value → Shared → Prop} (F : Fr h₀ L hp mm) (N : News h₀ L hp news) (hD : (D, listOf dvs.toArray n) ∈ news) (hI : IntsAre dvs ns) (hr : ns.length = 30 ∧ ∀ x ∈ ns, 0 ≤ x ∧ x < 4096)
    (e1 : mm (Str.ofString "drops") = some (.ref D)) (e2 : mm (Str.ofString "spot") = some (.int sp u)) (h0 : 0 ≤ sp + c) (h1 : sp + c < 30) (hm : m ≠ 0) (k : ∀ (b : Int) (t : Tok) (tk : Nat), 0 ≤ b → b < 4096 → Q (.int (b.fmod m) t) ⟨hp, gn, dr, tk, os⟩)
    (hk : cs.kind = .function) (hx : (envX cn cs L a ccd cl).kindOf (Str.ofString "drops") = some .local) (hy : (envX cn cs L a ccd cl).kindOf (Str.ofString "spot") = some .local) :
    wpAny (model prog w) A (eval (.BinOp (.Subscript (.Name (Str.ofString "drops") p1) (.BinOp (.Name (Str.ofString "spot") p2) .Add (.Constant (.int c) k1 p3) p4) p5) .Mod (.Constant (.int m) k2 p6) p7) (envX cn cs L a ccd cl)) Q E ⟨hp, gn, dr, st, os⟩ :=
  wpAny_BinOp (Subscript_ (nameX_L F e1 (wpAny_BinOp (nameX_L F e2 (wpAny_Constant_int (wpAny_add_int (itemI N hD hI hr h0 h1 (fun b t a1 a2 => wpAny_Constant_int (mod_int' hm (k b _ _ a1 a2)))))) hk hy)) hk hx))
end
theorem fm0 {a b : Int} (h : 0 < b) : 0 ≤ a.fmod b := Int.fmod_nonneg_of_pos a h
theorem fmlt {a b : Int} (h : 0 < b) : a.fmod b < b := Int.fmod_lt_of_pos a h
theorem at4 {α : Type} {a b c d v : α} {j : Nat} (h : [a, b, c, d][j]? = some v) : v = a ∨ v = b ∨ v = c ∨ v = d := by
  have := List.mem_of_getElem? h
  simpa using this
def TabOfPost (wd : Int) (news : List (Addr × Obj)) (r : Value) (nx : List (Addr × Obj)) : Prop :=
  ∃ own d, nx = own ++ news ∧ TabL own r d ∧ (∀ i, d = .int i → 5 < wd → i < 2 ^ 64) ∧ ∀ p ∈ own, ∃ vs, p.2 = tupO vs
theorem tabof_int {wd : Int} {news : List (Addr × Obj)} {i : Int} {t : Tok} (h : 5 < wd → i < 2 ^ 64) : TabOfPost wd news (.int i t) news :=
  ⟨[], _, rfl, .int i t, fun j e h5 => by cases e; exact h h5, fun _ hp => nomatch hp⟩
theorem sb_keep {α : Type} {x : α} {a b : List α} (h : ∀ p ∈ a, p ∈ b) : ∀ p ∈ x :: a, p ∈ x :: b := fun p hp => by
  rcases List.mem_cons.mp hp with e | e
  · exact List.mem_cons.mpr (.inl e)
  · exact .tail _ (h p e)
theorem sb_skip {α : Type} {x : α} {a b : List α} (h : ∀ p ∈ a, p ∈ b) : ∀ p ∈ a, p ∈ x :: b := fun p hp => .tail _ (h p hp)
theorem sb_app {α : Type} {o a b : List α} (h : ∀ p ∈ a, p ∈ b) : ∀ p ∈ o ++ a, p ∈ o ++ b := fun p hp => by
  rcases List.mem_append.mp hp with e | e
  · exact List.mem_append.mpr (.inl e)
  · exact List.mem_append.mpr (.inr (h p e))
theorem tups_nil : ∀ p ∈ ([] : List (Addr × Obj)), ∃ vs, p.2 = tupO vs := fun _ hp => nomatch hp
theorem tups_cons {a : Addr} {vs : List Value} {r : List (Addr × Obj)} (h : ∀ p ∈ r, ∃ vs, p.2 = tupO vs) : ∀ p ∈ (a, tupO vs) :: r, ∃ vs, p.2 = tupO vs := fun p hp => by
  rcases List.mem_cons.mp hp with e | e
  · exact ⟨vs, by rw [e]⟩
  · exact h p e
theorem tabof_menu {wd : Int} {news : List (Addr × Obj)} {D₁ D₂ : Addr} {v : Value} {j : Nat} {t5 tc t1 : Tok}
    (hv : [Value.none, .ref D₁, .str (Str.ofString "5") t5, .ref D₂][j]? = some v) : TabOfPost wd news v ((D₂, tupO [.str (Str.ofString "C") tc, .int 1 t1]) :: (D₁, tupO []) :: news) := by
  have f : ∀ {d : Dat}, TabL [(D₂, tupO [.str (Str.ofString "C") tc, .int 1 t1]), (D₁, tupO [])] v d → (∀ i, d = .int i → 5 < wd → i < 2 ^ 64) → TabOfPost wd news v ((D₂, tupO [.str (Str.ofString "C") tc, .int 1 t1]) :: (D₁, tupO []) :: news) :=
    fun {d} hd hb => ⟨[(D₂, _), (D₁, _)], d, rfl, hd, hb, tups_cons (tups_cons tups_nil)⟩
  rcases at4 hv with e | e | e | e <;> subst e
  · exact f .none fun _ e => nomatch e
  · exact f (.nil _ (.tail _ (.head _))) fun _ e => nomatch e
  · exact f (.five _) fun _ e => nomatch e
  · exact f (.c1 _ _ _ (.head _)) fun _ e => nomatch e
theorem pow63 {b : Int} : 2 ^ (b.fmod 64).toNat + 5 < (2 : Int) ^ 64 := by
  have h0 : 0 ≤ b.fmod 64 := fm0 (by decide)
  have h1 : b.fmod 64 < 64 := fmlt (by decide)
  have h : (2 : Int) ^ (b.fmod 64).toNat ≤ 2 ^ 63 := pow2_le (by omega)
  omega
theorem negs {b : Int} : 0 - 1 - b.fmod 9 < (2 : Int) ^ 64 := by
  have h0 : 0 ≤ b.fmod 9 := fm0 (by decide)
  omega
section
variable {prog : Program} {w : World} {p : Program} {loose : List Str} {mean : ExcName → Option Value} {mg mb : Str → Option Value} {news : List (Addr × Obj)}
set_option maxRecDepth 100000 in
set_option maxHeartbeats 8000000 in
theorem tabof_con (D : Addr) (n : Nat) (dvs : List Value) (ns : List Int) (sp : Int) (st wt : Tok) (wd : Int) (hD : (D, listOf dvs.toArray n) ∈ news) (hI : IntsAre dvs ns) (hr : ns.length = 30 ∧ ∀ x ∈ ns, 0 ≤ x ∧ x < 4096) (hs0 : 0 ≤ sp) (hs1 : sp < 29) (h0 : 0 ≤ wd) (h1 : wd ≤ 70) :
    Con prog w p loose mean mg mb 3 229 [.ref D, .int sp st, .int wd wt] news (TabOfPost wd news) := by
  w_top off; (have hfill : PySem.Challenge.rw_pq0453_01 = PySem.Challenge.rw_pq0453_01 ∧ hd.heap_39 = hd.heap_39 := (by k_fill; exact ⟨rfl, rfl⟩)); clear hfill
  k_with_none
  k_with "ite" => (k_closed; first | ((with_reducible refine ite_pos ?k1 ?_); (case k1 => decide)) | ((with_reducible refine ite_neg ?k1 ?_); (case k1 => decide)))
  k_with "storeName" => (k_here; k_dflt (refine' storeL ?F ?N ?_ ?a ?b; (case F => k_asm); (case N => k_asm); (case a => rfl); (case b => rfl); k_whole; intro h' tk' mm' F' N'))
  k_with "binaryOp Pow int int" => ((with_reducible refine pow_int_small ?_ ?_ ?_ ?_) <;> first | decide | exact Int.le_trans (by assumption) (by decide) | omega | exact pow2_nn _ | (refine pow2_le5 ?_; omega) | skip)
  k_with "subscriptTail" => (k_here; (with_reducible show wpAny _ _ (subscriptTail _ _ (Value.ref _) (Value.int _ _)) _ _ _); k_dflt (refine' itemL ?k1 ?k2 ?k3 ?k4 ?k5 ?_; (case k1 => k_asm); (case k2 => k_mem); (case k3 => first | exact fm0 (by decide) | omega); (case k4 => first | exact fmlt (by decide) | omega); (case k5 => first | exact Nat.le_of_ble_eq_true rfl | omega); k_whole); intro v9 hv9)
  k_with "subscriptTail" => (k_here; (with_reducible show wpAny _ _ (subscriptTail _ _ (Value.ref _) (Value.int _ _)) _ _ _); k_dflt (refine' itemI ?k1 ?k2 ?k3 ?k4 ?k5 ?k6 ?_; (case k1 => k_asm); (case k2 => k_mem); (case k3 => assumption); (case k4 => assumption); (case k5 => first | assumption | exact Int.add_nonneg (by assumption) (by decide) | omega); (case k6 => first | exact spot_hi (by assumption) (by decide) | exact spot_hi0 (by assumption) (by decide) | omega); k_whole); intro b9 t9 hb9 hb8)
  k_with "eval BinOp" => (k_here; (with_reducible show wpAny _ _ (eval (Expr.BinOp (Expr.Subscript (Expr.Name _ _) (Expr.BinOp (Expr.Name _ _) Operator.Add (Expr.Constant (Const.int _) _ _) _) _) Operator.Mod (Expr.Constant (Const.int _) _ _) _) _) _ _ _); k_dflt (refine' evDM ?k1 ?k2 ?k3 ?k4 ?k5 ?k6 ?k7 ?k8 ?k9 ?m ?_ ?kk ?x ?y; (case k1 => k_asm); (case k2 => k_asm); (case k6 => exact rfl); (case k7 => exact rfl); (case k3 => k_mem); (case k4 => assumption); (case k5 => assumption); (case k8 => first | exact Int.add_nonneg (by assumption) (by decide) | omega); (case k9 => first | exact spot_hi (by assumption) (by decide) | omega); (case m => decide); (case kk => exact rfl); (case x => exact rfl); (case y => exact rfl)); intro b9 t9 tk9 hb9 hb8)
  (unfold Con; intro dp un gd cn cs a ccd cl outer A₀ base h₀ L m sheap sgens sdrawn stoks sos Q E B F X N T hk hdp hun hret; refine wpAny_call ?_; k_dflt (refine' code_defL ?k1 ?k2 ?k3 ?k4 ?k5 ?kA ?kF ?kK ?k6 ?k7 ?k8 ?k9 ?kB ?_ ?c2 ?c3 ?c4 ?c5; (case kA => exact rfl); (case kF => exact rfl); (case kK => assumption); (case k1 => k_asm); (case k2 => k_asm); (case k3 => k_asm); (case k4 => k_asm); (case k5 => k_asm); (case k6 => k_is); (case k7 => k_is); (case k8 => first | exact Nat.lt_of_le_of_lt (Nat.le_add_right _ _) hdp | ktr_room); (case k9 => exact BindsTo.of_eq rfl); (case c5 => decide); (case kB => exact locs rfl); (case c2 => exact rfl); (case c3 => exact rfl); (case c4 => exact rfl); k_whole; intro g' L' h' tk' en' An' mm' FG' F' N' B' X' T' qq' ee'; (try dsimp only); (try k_lift B')))
  k_steps
  all_goals first
    | (refine hret _ _ _ _ (by k_asm) (by k_asm) ?_; first
        | with_reducible exact tabof_int fun _ => negs
        | with_reducible exact tabof_int fun _ => pow63
        | exact tabof_int fun h5 => absurd h5 (Int.not_lt.mpr (by assumption)))
    | exact hret _ _ _ _ (by k_asm) (cb_drop (by k_asm) (sb_skip fun _ h => h)) (tabof_menu (by assumption))
end

end
section
open PySem PySem.W PyProof.Rows
theorem at6 {α : Type} {a b c d e f v : α} {j : Nat} (h : [a, b, c, d, e, f][j]? = some v) : v = a ∨ v = b ∨ v = c ∨ v = d ∨ v = e ∨ v = f := by
  have := List.mem_of_getElem? h
  simpa using this
theorem at6s {t1 t2 t3 t4 t5 t6 : Tok} {v : Value} {j : Nat} (h : [Value.str (Str.ofString "lut") t1, .str (Str.ofString "cell") t2, .str (Str.ofString "and") t3, .str (Str.ofString "flop") t4, .str (Str.ofString "latch") t5, .str (Str.ofString "not") t6][j]? = some v) : ∃ k t, v = .str k t ∧ (k ∈ [(Str.ofString "lut"), Str.ofString "cell"] ∨ k ∈ [(Str.ofString "and"), Str.ofString "not"] ∨ k ∈ [(Str.ofString "latch"), Str.ofString "flop"]) := by
  rcases at6 h with e | e | e | e | e | e <;> exact ⟨_, _, e, by decide⟩
section
variable {prog : Program} {w : World} {A : Around} {E : Value → Shared → Prop} {s : Shared} {h₀ : Heap} {L : Addr} {news : List (Addr × Obj)} {Q : Value → Shared → Prop}
/-- a text in a written list of two -/
theorem inTwo {l : Addr} {a b k : Str} {t ta tb : Tok} {n : Nat} (N : News h₀ L s.heap news) (hm : (l, listOf [Value.str a ta, .str b tb].toArray n) ∈ news) (h1 : k ∈ [a, b] → Q (.bool true) s) (h2 : k ∉ [a, b] → Q (.bool false) s) :
    wpAny (model prog w) A (compareOp .In (.str k t) (.ref l)) Q E s := by
  have main : ∀ c : Bool, (a == k || b == k) = c → Q (.bool c) s → wpAny (model prog w) A (compareOp .In (.str k t) (.ref l)) Q E s := by
    intro c e q
    refine PySem.SeqAt.in_listAt (fun y => match y with | .str z _ => z == k | _ => false) (N.isList hm) (fun y hy => ?_) ?_
    · have hy : y = .str a ta ∨ y = .str b tb := by simpa using hy
      rcases hy with rfl | rfl
      · exact PySem.SeqAt.EqAt.str_str _ _ _ _
      · exact PySem.SeqAt.EqAt.str_str _ _ _ _
    · have : ([Value.str a ta, .str b tb].toArray.any fun y => match y with | .str z _ => z == k | _ => false) = c := by rw [← e]; simp
      rw [this]; exact q
  by_cases hk : k ∈ [a, b]
  · refine main true ?_ (h1 hk)
    rcases List.mem_cons.mp hk with rfl | hk
    · simp
    · rw [List.mem_singleton.mp hk]; simp
  · refine main false ?_ (h2 hk)
    simp only [List.mem_cons, List.not_mem_nil, or_false, not_or] at hk
    simp [Ne.symm hk.1, Ne.symm hk.2]
/-- one of two texts, told by a comparison -/
theorem eqTwo {a b k : Str} {t u : Tok} (hk : k ∈ [a, b]) (hab : (b == a) = false) (h1 : k = a → Q (.bool true) s) (h2 : k = b → Q (.bool false) s) : wpAny (model prog w) A (compareOp .Eq (.str k t) (.str a u)) Q E s := by
  refine eq_str ?_
  rcases List.mem_cons.mp hk with h | h
  · have : (k == a) = true := by rw [h]; simp
    rw [this]; exact h1 h
  · have h := List.mem_singleton.mp h
    have : (k == a) = false := by rw [h]; exact hab
    rw [this]; exact h2 h
def isNoneV : Value → Bool | .none => true | _ => false
theorem isNoneQ {v : Value} {j : Nat} {t1 t2 : Tok} {x : Str} {D : Addr} (h : [Value.none, .int 8 t1, .ref D, .str x t2][j]? = some v) (q : Q (.bool (isNoneV v)) s) : wpAny (model prog w) A (compareOp .Is v .none) Q E s := by
  rcases at4 h with e | e | e | e <;> subst e
  · exact is_none_none q
  · exact is_int_none q
  · exact is_ref_none q
  · exact is_str_none q
end
theorem at10 {t0 t1 t2 t3 t4 t5 t6 t7 t8 t9 : Tok} {v : Value} {j : Nat} (h : [Value.int 0 t0, .int 1 t1, .int 2 t2, .int 3 t3, .int 5 t4, .int 6 t5, .int 16 t6, .int 40 t7, .int 64 t8, .int 70 t9][j]? = some v) : ∃ i t, v = .int i t ∧ 0 ≤ i ∧ i ≤ 70 := by
  have := List.mem_of_getElem? h
  simp only [List.mem_cons, List.not_mem_nil, or_false] at this
  rcases this with e | e | e | e | e | e | e | e | e | e <;> exact ⟨_, _, e, by decide, by decide⟩
theorem at4n {b c d v : Value} {j : Nat} (h : [Value.none, b, c, d][j]? = some v) : v = .none ∨ v = b ∨ v = c ∨ v = d := at4 h
theorem TabL.tab {news news' : List (Addr × Obj)} {v : Value} {d : Dat} (h : TabL news v d) (s : ∀ p ∈ news, p ∈ news') : TabV news' v d := by
  cases h with
  | none => exact .none
  | int i t => exact .int i t
  | five t => exact .str _ t
  | nil a m => exact .ref a _ _ (s _ m)
  | c1 a t u m => exact .ref a _ _ (s _ m)
theorem TabL.mono {news news' : List (Addr × Obj)} {v : Value} {d : Dat} (h : TabL news v d) (s : ∀ p ∈ news, p ∈ news') : TabL news' v d := by
  cases h with
  | none => exact .none
  | int i t => exact .int i t
  | five t => exact .five t
  | nil a m => exact .nil a (s _ m)
  | c1 a t u m => exact .c1 a t u (s _ m)
def nameQ (sp : Int) : Str := Str.ofString "q" ++ Str.ofString (toString sp)
/-- the widths of the kinds -/
def KW (kind : Str) (wd : Int) : Prop := 0 ≤ wd ∧ wd ≤ 70 ∧ (kind ∈ [(Str.ofString "lut"), Str.ofString "cell"] ∨ (kind ∈ [(Str.ofString "and")] ∧ wd = 2) ∨ (kind ∈ [(Str.ofString "not")] ∧ wd = 1) ∨ (kind ∈ [(Str.ofString "flop"), Str.ofString "latch"] ∧ wd = 4))
/-- the widths of the gates and of the states -/
theorem width4 {k : Str} {t1 t2 t3 t4 : Tok} (h : k ∈ [(Str.ofString "and"), Str.ofString "not"] ∨ k ∈ [(Str.ofString "latch"), Str.ofString "flop"]) :
    ∃ wd t, valueAt [((Str.ofString "and"), Value.int 2 t1), (Str.ofString "flop", .int 4 t2), (Str.ofString "latch", .int 4 t3), (Str.ofString "not", .int 1 t4)] k = some (.int wd t) ∧ KW k wd := by
  rcases h with h | h <;> rcases List.mem_cons.mp h with rfl | h
  · exact ⟨_, _, rfl, by decide, by decide, by decide⟩
  · rw [List.mem_singleton.mp h]; exact ⟨_, _, rfl, by decide, by decide, by decide⟩
  · exact ⟨_, _, rfl, by decide, by decide, by decide⟩
  · rw [List.mem_singleton.mp h]; exact ⟨_, _, rfl, by decide, by decide, by decide⟩
section
variable {prog : Program} {w : World} {A : Around} {E : Value → Shared → Prop} {hp : Heap} {gn : Array GenState} {dr : Drawn} {st : Nat} {os : OsState} {h₀ : Heap} {L : Addr} {news : List (Addr × Obj)} {Q : Value → Shared → Prop}
theorem itemW {value slice : Expr} {d : Addr} {o : Obj} {k : Str} {u t1 t2 t3 t4 : Tok} (N : News h₀ L hp news) (hm : (d, o) ∈ news) (hd : o.IsDictOf (PySem.strKind prog w) [((Str.ofString "and"), Value.int 2 t1), (Str.ofString "flop", .int 4 t2), (Str.ofString "latch", .int 4 t3), (Str.ofString "not", .int 1 t4)])
    (hk : k ∈ [(Str.ofString "and"), Str.ofString "not"] ∨ k ∈ [(Str.ofString "latch"), Str.ofString "flop"]) (h : ∀ wd t, KW k wd → Q (.int wd t) ⟨hp, gn, dr, st + 1, os⟩)
    (hs : subscripted slice false (.ref d) (.str k u) = operate [.ref d, .str k u] (getItem (.ref d) (.str k u)) := by with_unfolding_all rfl) :
    wpAny (model prog w) A (subscriptTail value slice (.ref d) (.str k u)) Q E ⟨hp, gn, dr, st, os⟩ := by
  obtain ⟨wd, t, hv, hw⟩ := width4 (t1 := t1) (t2 := t2) (t3 := t3) (t4 := t4) hk
  have hD := kda_dict (s := ⟨hp, gn, dr, st, os⟩) N hm hd
  exact tail_any hD.typeIs slot_dict_getitem.lookup (wpAny_getItem_of (strKind_is _ _ _ _) hD.mapOf hv (h wd t hw)) hs
end
theorem kw_st {k : Str} {wd : Int} (h : k ∈ [(Str.ofString "latch"), Str.ofString "flop"]) (hw : KW k wd) : wd = 4 := by
  obtain ⟨_, _, h1 | ⟨h1, _⟩ | ⟨h1, _⟩ | ⟨_, e⟩⟩ := hw
  · rcases List.mem_cons.mp h with rfl | h
    · exact absurd h1 (by decide)
    · rw [List.mem_singleton.mp h] at h1; exact absurd h1 (by decide)
  · rcases List.mem_cons.mp h with rfl | h
    · exact absurd h1 (by decide)
    · rw [List.mem_singleton.mp h] at h1; exact absurd h1 (by decide)
  · rcases List.mem_cons.mp h with rfl | h
    · exact absurd h1 (by decide)
    · rw [List.mem_singleton.mp h] at h1; exact absurd h1 (by decide)
  · exact e
def LCellPost (sp : Int) (news : List (Addr × Obj)) (r : Value) (nx : List (Addr × Obj)) : Prop :=
  ∃ own a kind wd pv pd kt wt, r = .ref a ∧ nx = own ++ news ∧ (a, tupO [.str kind kt, .int wd wt, pv, .bool (fitsD kind wd pd)]) ∈ own ∧ ParIn own kind pv pd ∧ KW kind wd ∧ (isSt kind = true → fitsD kind wd pd = true → nameOf pd = nameQ sp) ∧ ∀ p ∈ own, ∃ vs, p.2 = tupO vs
section
variable {sp : Int} {news own : List (Addr × Obj)} {a D₁ D₂ : Addr} {kind : Str} {wd : Int} {pv : Value} {pd d : Dat} {kt wt t1 t2 t3 t4 t5 : Tok}
theorem lc_mk {g : Bool} (hp : ParIn ((a, tupO [.str kind kt, .int wd wt, pv, .bool g]) :: own) kind pv pd) (hw : KW kind wd) (hg : g = fitsD kind wd pd) (ht : ∀ p ∈ own, ∃ vs, p.2 = tupO vs) (hn : isSt kind = true → fitsD kind wd pd = true → nameOf pd = nameQ sp) :
    LCellPost sp news (.ref a) (((a, tupO [.str kind kt, .int wd wt, pv, .bool g]) :: own) ++ news) := by
  subst hg
  exact ⟨_, a, kind, wd, pv, pd, kt, wt, rfl, rfl, .head _, hp, hw, hn, tups_cons ht⟩
theorem lc_lut (h0 : 0 ≤ wd) (h1 : wd ≤ 70) (hT : TabL own pv d) (ht : ∀ p ∈ own, ∃ vs, p.2 = tupO vs) :
    LCellPost sp news (.ref a) ((a, tupO [.str (Str.ofString "lut") kt, .int wd wt, pv, .bool (isTab d wd)]) :: (own ++ news)) :=
  lc_mk (.lut _ _ (hT.tab fun p h => .tail _ h)) ⟨h0, h1, .inl (by decide)⟩ fd_lut.symm ht (fun h => absurd h (by decide))
theorem lc_cellT (h0 : 0 ≤ wd) (h1 : wd ≤ 70) (hT : TabL own pv d) (ht : ∀ p ∈ own, ∃ vs, p.2 = tupO vs) :
    LCellPost sp news (.ref a) ((a, tupO [.str (Str.ofString "cell") kt, .int wd wt, .ref D₁, .bool (isTab d wd)]) :: (D₁, tupO [.str (Str.ofString "C") t1, pv]) :: (own ++ news)) :=
  lc_mk (own := (D₁, tupO [.str (Str.ofString "C") t1, pv]) :: own) (pd := .tuple [.str (Str.ofString "C"), d]) (.cell2 _ _ _ _ _ (.tail _ (.head _)) (hT.tab fun p h => .tail _ (.tail _ h))) ⟨h0, h1, .inl (by decide)⟩ fd_cell2.symm (tups_cons ht) (fun h => absurd h (by decide))
theorem lc_cellM {j : Nat} (h0 : 0 ≤ wd) (h1 : wd ≤ 70) (ht : ∀ p ∈ own, ∃ vs, p.2 = tupO vs) (hv : [Value.int 8 t1, .ref D₁, .ref D₂, .none][j]? = some pv) :
    LCellPost sp news (.ref a) ((a, tupO [.str (Str.ofString "cell") kt, .int wd wt, pv, .bool false]) :: (D₂, tupO [.str (Str.ofString "C") t2, .int 1 t3, .int 2 t4]) :: (D₁, tupO [.str (Str.ofString "C") t5]) :: (own ++ news)) := by
  have hT := tups_cons (a := D₂) (vs := [.str (Str.ofString "C") t2, .int 1 t3, .int 2 t4]) (tups_cons (a := D₁) (vs := [.str (Str.ofString "C") t5]) ht)
  have hw : KW (Str.ofString "cell") wd := ⟨h0, h1, .inl (by decide)⟩
  have hn : ∀ pd : Dat, isSt (Str.ofString "cell") = true → fitsD (Str.ofString "cell") wd pd = true → nameOf pd = nameQ sp := fun _ h => absurd h (by decide)
  rcases at4 hv with e | e | e | e <;> subst e
  · exact lc_mk (.int _ 8 t1 (by decide)) hw (fd_int (by decide)).symm hT (hn _)
  · exact lc_mk (.few _ D₁ [.str (Str.ofString "C") t5] [.none] 1 (by decide) rfl (by decide) (by decide) (by decide) rfl (.tail _ (.tail _ (.head _)))) hw (fd_few (by decide) (by decide) (by decide)).symm hT (hn _)
  · exact lc_mk (.cell3 D₂ _ _ _ .none .none .none (.tail _ (.head _))) hw fd_cell3.symm hT (hn _)
  · exact lc_mk (.none _ (by decide)) hw rfl hT (hn _)
theorem lc_g {g : Bool} (hw : KW kind wd) (hs : isSt kind = false) (hp : ParIn ((a, tupO [.str kind kt, .int wd wt, pv, .bool g]) :: own) kind pv pd) (hg : g = fitsD kind wd pd) (ht : ∀ p ∈ own, ∃ vs, p.2 = tupO vs) :
    LCellPost sp news (.ref a) (((a, tupO [.str kind kt, .int wd wt, pv, .bool g]) :: own) ++ news) :=
  lc_mk hp hw hg ht (fun h => by rw [hs] at h; cases h)
theorem lc_bad (hw : KW kind wd) (hp : ParIn ((a, tupO [.str kind kt, .int wd wt, pv, .bool false]) :: own) kind pv pd) (hg : false = fitsD kind wd pd) (ht : ∀ p ∈ own, ∃ vs, p.2 = tupO vs) :
    LCellPost sp news (.ref a) (((a, tupO [.str kind kt, .int wd wt, pv, .bool false]) :: own) ++ news) :=
  lc_mk hp hw hg ht (fun _ h => nomatch hg.trans h)
theorem lc_stM {j : Nat} {x : Str} (hw : KW kind wd) (hk : kind ≠ "lut") (h0 : false = fitsD kind wd .none) (hv : [Value.int 8 t1, .none, .ref D₁, .str x t2][j]? = some pv) :
    LCellPost sp news (.ref a) ((a, tupO [.str kind kt, .int wd wt, pv, .bool false]) :: (D₁, tupO [.int 1 t3]) :: news) := by
  have hT := tups_cons (a := D₁) (vs := [.int 1 t3]) tups_nil
  rcases at4 hv with e | e | e | e <;> subst e
  · exact lc_bad hw (.int _ 8 t1 hk) (fd_int hk).symm hT
  · exact lc_bad hw (.none _ hk) h0 hT
  · exact lc_bad hw (.few _ D₁ [.int 1 t3] [.none] 1 hk rfl (by decide) (by decide) (by decide) rfl (.tail _ (.head _))) (fd_few hk (by decide) (by decide)).symm hT
  · exact lc_bad hw (.str _ x t2 hk) (fd_str hk).symm hT
theorem lc_gate {j : Nat} {x : Str} (hk : kind ∈ [(Str.ofString "and"), Str.ofString "not"]) (hw : KW kind wd) (hv : [Value.none, .int 8 t1, .ref D₁, .str x t2][j]? = some pv) :
    LCellPost sp news (.ref a) ((a, tupO [.str kind kt, .int wd wt, pv, .bool (isNoneV pv)]) :: (D₁, tupO []) :: news) := by
  have hT := tups_cons (a := D₁) (vs := []) tups_nil
  have hs : isSt kind = false ∧ kind ≠ "lut" ∧ fitsD kind wd .none = true := by
    rcases List.mem_cons.mp hk with rfl | h
    · exact ⟨rfl, by decide, rfl⟩
    · rw [List.mem_singleton.mp h]; exact ⟨rfl, by decide, rfl⟩
  rcases at4 hv with e | e | e | e <;> subst e
  · exact lc_g hw hs.1 (.none _ hs.2.1) hs.2.2.symm hT
  · exact lc_g hw hs.1 (.int _ 8 _ hs.2.1) (fd_int hs.2.1).symm hT
  · exact lc_g hw hs.1 (.few _ D₁ [] [] 0 hs.2.1 rfl (by decide) (by decide) (by decide) rfl (.tail _ (.head _))) (fd_few hs.2.1 (by decide) (by decide)).symm hT
  · exact lc_g hw hs.1 (.str _ _ _ hs.2.1) (fd_str hs.2.1).symm hT
theorem lc_gateN (hk : kind ∈ [(Str.ofString "and"), Str.ofString "not"]) (hw : KW kind wd) :
    LCellPost sp news (.ref a) ((a, tupO [.str kind kt, .int wd wt, .none, .bool true]) :: news) := by
  rcases List.mem_cons.mp hk with rfl | h
  · exact lc_g (own := []) hw rfl (.none _ (by decide)) rfl tups_nil
  · rw [List.mem_singleton.mp h] at hw ⊢; exact lc_g (own := []) hw rfl (.none _ (by decide)) rfl tups_nil
theorem lc_stQ {j : Nat} {x : Str} (hk : kind ∈ [(Str.ofString "latch"), Str.ofString "flop"]) (hw : KW kind wd) (hv : [Value.int 8 t1, .none, .ref D₁, .str x t2][j]? = some pv) :
    LCellPost sp news (.ref a) ((a, tupO [.str kind kt, .int wd wt, pv, .bool false]) :: (D₁, tupO [.int 1 t3]) :: news) := by
  rcases List.mem_cons.mp hk with rfl | h
  · exact lc_stM hw (by decide) rfl hv
  · rw [List.mem_singleton.mp h] at hw ⊢; exact lc_stM hw (by decide) rfl hv
theorem bit3 {b : Int} : decide (b.fmod 3 < 2) = bit01 (b.fmod 3) := by
  have h0 : 0 ≤ b.fmod 3 := fm0 (by decide)
  have h1 : b.fmod 3 < 3 := fmlt (by decide)
  have : b.fmod 3 = 0 ∨ b.fmod 3 = 1 ∨ b.fmod 3 = 2 := by omega
  rcases this with e | e | e <;> rw [e] <;> rfl
theorem lc_latch {b : Int} :
    LCellPost sp news (.ref a) ((a, tupO [.str (Str.ofString "latch") kt, .int 4 wt, .ref D₁, .bool (decide (b.fmod 3 < 2))]) :: (D₁, tupO [.str (Str.ofString "q" ++ Str.ofString (toString sp)) t1, .int (b.fmod 3) t2]) :: news) :=
  lc_mk (own := [(D₁, _)]) (.latch _ _ _ _ _ (.tail _ (.head _))) ⟨by decide, by decide, by decide⟩ (bit3.trans fd_latch.symm) (tups_cons tups_nil) fun _ _ => rfl
theorem lc_flopT {b c : Int} (h : c.fmod 3 < 2) :
    LCellPost sp news (.ref a) ((a, tupO [.str (Str.ofString "flop") kt, .int 4 wt, .ref D₁, .bool (decide (b.fmod 3 < 2))]) :: (D₁, tupO [.int (c.fmod 3) t1, .str (Str.ofString "q" ++ Str.ofString (toString sp)) t2, .int (b.fmod 3) t3]) :: news) :=
  lc_mk (own := [(D₁, _)]) (.flop _ _ _ _ _ _ _ (.tail _ (.head _))) ⟨by decide, by decide, by decide⟩ (by rw [fd_flop, ← bit3, ← bit3, decide_eq_true h, Bool.true_and]) (tups_cons tups_nil) fun _ _ => rfl
theorem lc_flopF {b c : Int} (h : ¬ c.fmod 3 < 2) :
    LCellPost sp news (.ref a) ((a, tupO [.str (Str.ofString "flop") kt, .int 4 wt, .ref D₁, .bool (decide (c.fmod 3 < 2))]) :: (D₁, tupO [.int (c.fmod 3) t1, .str (Str.ofString "q" ++ Str.ofString (toString sp)) t2, .int (b.fmod 3) t3]) :: news) :=
  lc_mk (own := [(D₁, _)]) (.flop _ _ _ _ _ _ _ (.tail _ (.head _))) ⟨by decide, by decide, by decide⟩ (by rw [fd_flop, ← bit3, decide_eq_false h, Bool.false_and]) (tups_cons tups_nil) fun _ _ => rfl
end
section
variable {prog : Program} {w : World} {p : Program} {loose : List Str} {mean : ExcName → Option Value} {mg mb : Str → Option Value} {news : List (Addr × Obj)}
set_option maxRecDepth 100000 in
set_option maxHeartbeats 8000000 in
theorem lcell_con (D : Addr) (n : Nat) (dvs : List Value) (ns : List Int) (sp : Int) (st : Tok) (hD : (D, listOf dvs.toArray n) ∈ news) (hI : IntsAre dvs ns) (hr : ns.length = 30 ∧ ∀ x ∈ ns, 0 ≤ x ∧ x < 4096) (hs0 : 0 ≤ sp) (hs1 : sp < 25) :
    Con prog w p loose mean mg mb 12 243 [.ref D, .int sp st] news (LCellPost sp news) := by
  w_top off; (have hfill : PySem.Challenge.rw_pq0453_01 = PySem.Challenge.rw_pq0453_01 ∧ hd.heap_39 = hd.heap_39 := (by k_fill; exact ⟨rfl, rfl⟩)); clear hfill
  k_with_none
  k_with "ite" => (k_closed; first | ((with_reducible refine ite_pos ?k1 ?_); (case k1 => decide)) | ((with_reducible refine ite_neg ?k1 ?_); (case k1 => decide)))
  k_with "storeName" => (k_here; k_dflt (refine' storeL ?F ?N ?_ ?a ?b; (case F => k_asm); (case N => k_asm); (case a => rfl); (case b => rfl); k_whole; intro h' tk' mm' F' N'))
  k_with "subscriptTail" => (k_here; (with_reducible show wpAny _ _ (subscriptTail _ _ (Value.ref _) (Value.int _ _)) _ _ _); k_dflt (refine' itemL ?k1 ?k2 ?k3 ?k4 ?k5 ?_; (case k1 => k_asm); (case k2 => k_mem); (case k3 => first | exact fm0 (by decide) | omega); (case k4 => first | exact fmlt (by decide) | omega); (case k5 => first | exact Nat.le_of_ble_eq_true rfl | omega); k_whole); intro v9 hv9; first | (obtain ⟨kd, kt9, e9, hk6⟩ := at6s hv9; subst e9) | (obtain ⟨i9, j9, e9, hi9, hj9⟩ := at10 hv9; subst e9) | skip)
  k_with "subscriptTail" => (k_here; (with_reducible show wpAny _ _ (subscriptTail _ _ (Value.ref _) (Value.int _ _)) _ _ _); k_dflt (refine' itemI ?k1 ?k2 ?k3 ?k4 ?k5 ?k6 ?_; (case k1 => k_asm); (case k2 => k_mem); (case k3 => assumption); (case k4 => assumption); (case k5 => first | assumption | exact Int.add_nonneg (by assumption) (by decide) | omega); (case k6 => first | exact spot_hi (by assumption) (by decide) | exact spot_hi0 (by assumption) (by decide) | omega); k_whole); intro b9 t9 hb9 hb8)
  k_with "eval Dict" => (k_here; k_dflt (refine' kdn_eval (knd := PySem.strKind _ _) ?F ?N ?b ?a ?l ?e ?n ?_; (case F => k_asm); (case N => k_asm); (case b => exact Top.nolimit (by k_asm)); (case a => rfl); (case l => rfl); (case e => exact List.cons_ne_nil _ _); (case n => exact Nat.le_of_ble_eq_true rfl)); intro d' h' o' F' N' l1 lo' hd')
  k_with "subscriptTail" => (k_here; (with_reducible show wpAny _ _ (subscriptTail _ _ (Value.ref _) (Value.str _ _)) _ _ _); k_dflt (refine' itemW ?N ?m ?d ?k ?_; (case N => k_asm); (case m => k_mem); (case d => assumption); (case k => exact hk5)); intro wd9 wt9 hw9)
  k_with "call ref" => (k_here; (with_reducible show wpAny _ _ (call (Value.ref 229) _) _ _ _); k_dflt ((refine' Con.use (tabof_con _ _ _ _ _ _ _ _ ?q1 ?q2 ?q3 ?q4 ?q5 ?q6 ?q7) ?k1 ?k2 ?k3 ?k4 ?k5 ?kK ?kd ?ku ?_; (case k1 => k_asm); (case k2 => k_asm); (case k3 => k_asm); (case k4 => k_asm); (case k5 => k_asm); (case kK => first | exact rfl | assumption); (case q1 => k_mem); (case q2 => assumption); (case q3 => assumption); (case q4 => first | assumption | omega); (case q5 => first | assumption | omega); (case q6 => first | assumption | omega); (case q7 => first | assumption | omega); (case kd => first | exact room1 hdp rfl | exact room0 hdp rfl | ktr_room); (case ku => first | exact room2 hun rfl | exact room3 hun rfl | ktr_units)); intro r9 nx9 h9 tk9 F9 N9 hP9; (refine hide fun P9 hX9 => ?_); (obtain ⟨own9, d9, e9, hT9, hb9, hf9⟩ := hP9; subst e9); (refine hX9 ?_); clear hX9; (try dsimp only); (try k_fold)))
  k_with "call ref" => (k_here; (with_reducible show wpAny _ _ (call (Value.ref 236) _) _ _ _); k_dflt ((refine' Con.use (lfits_con _ d9 _ _ ?q1 ?q2 ?q3 ?q4) ?k1 ?k2 ?k3 ?k4 ?k5 ?kK ?kd ?ku ?_; (case k1 => k_asm); (case k2 => k_asm); (case k3 => k_asm); (case k4 => k_asm); (case k5 => k_asm); (case kK => first | exact rfl | assumption); (case q1 => first | assumption | omega); (case q2 => first | assumption | omega); (case q3 => exact TabL.mono hT9 (by intro p9 hp9; first | exact List.mem_append_left _ hp9 | exact .tail _ (List.mem_append_left _ hp9))); (case q4 => assumption); (case kd => first | exact room1 hdp rfl | exact room0 hdp rfl | ktr_room); (case ku => first | exact room2 hun rfl | exact room3 hun rfl | ktr_units)); intro r9 nx9 h9 tk9 F9 N9 hP9; (refine hide fun P9 hX9 => ?_); (obtain ⟨e9, e8⟩ := hP9; subst e9; subst e8); (refine hX9 ?_); clear hX9; (try dsimp only); (try k_fold)))
  k_with "compareOp In str ref" => (k_here; (refine' inTwo ?k1 ?k2 ?_ ?_; (case k1 => k_asm); (case k2 => k_mem)) <;> (intro hk2; refine Stop.out ?_))
  k_with "compareOp Eq str str" => (k_here; (refine' eqTwo ?k1 ?k2 ?_ ?_; (case k1 => assumption); (case k2 => decide)) <;> (intro hk1; subst hk1))
  k_with "compareOp Is" => (k_here; refine' isNoneQ ?k1 ?_; (case k1 => assumption))
  k_with "eval BinOp" => (k_here; (with_reducible show wpAny _ _ (eval (Expr.BinOp (Expr.Subscript (Expr.Name _ _) (Expr.BinOp (Expr.Name _ _) Operator.Add (Expr.Constant (Const.int _) _ _) _) _) Operator.Mod (Expr.Constant (Const.int _) _ _) _) _) _ _ _); k_dflt (refine' evDM ?k1 ?k2 ?k3 ?k4 ?k5 ?k6 ?k7 ?k8 ?k9 ?m ?_ ?kk ?x ?y; (case k1 => k_asm); (case k2 => k_asm); (case k6 => exact rfl); (case k7 => exact rfl); (case k3 => k_mem); (case k4 => assumption); (case k5 => assumption); (case k8 => first | exact Int.add_nonneg (by assumption) (by decide) | omega); (case k9 => first | exact spot_hi (by assumption) (by decide) | omega); (case m => decide); (case kk => exact rfl); (case x => exact rfl); (case y => exact rfl)); intro b9 t9 tk9 hb9 hb8)
  (unfold Con; intro dp un gd cn cs a ccd cl outer A₀ base h₀ L m sheap sgens sdrawn stoks sos Q E B F X N T hk hdp hun hret; refine wpAny_call ?_; k_dflt (refine' code_defL ?k1 ?k2 ?k3 ?k4 ?k5 ?kA ?kF ?kK ?k6 ?k7 ?k8 ?k9 ?kB ?_ ?c2 ?c3 ?c4 ?c5; (case kA => exact rfl); (case kF => exact rfl); (case kK => assumption); (case k1 => k_asm); (case k2 => k_asm); (case k3 => k_asm); (case k4 => k_asm); (case k5 => k_asm); (case k6 => k_is); (case k7 => k_is); (case k8 => first | exact Nat.lt_of_le_of_lt (Nat.le_add_right _ _) hdp | ktr_room); (case k9 => exact BindsTo.of_eq rfl); (case c5 => decide); (case kB => exact locs rfl); (case c2 => exact rfl); (case c3 => exact rfl); (case c4 => exact rfl); k_whole; intro g' L' h' tk' en' An' mm' FG' F' N' B' X' T' qq' ee'; (try dsimp only); (try k_lift B')))
  k_steps
  · refine Stop.mk ?_
    k_steps
    · exact hret _ _ _ _ (by k_asm) (cb_drop (by k_asm) (sb_keep (sb_app (sb_skip (sb_skip (sb_skip fun _ h => h)))))) (lc_lut (by assumption) (by assumption) hT9 hf9)
    · exact hret _ _ _ _ (by k_asm) (cb_drop (by k_asm) (sb_keep (sb_skip (sb_keep (sb_keep (sb_app (sb_skip (sb_skip (sb_skip fun _ h => h))))))))) (lc_cellM (by assumption) (by assumption) hf9 hv9)
    · exact hret _ _ _ _ (by k_asm) (cb_drop (by k_asm) (sb_keep (sb_keep (sb_app (sb_skip (sb_skip (sb_skip fun _ h => h))))))) (lc_cellT (by assumption) (by assumption) hT9 hf9)
  · have hk5 := hk6.resolve_left hk2
    refine Stop.mk ?_
    k_steps
    · refine Stop.mk ?_
      k_steps
      · first | exact hret _ _ _ _ (by k_asm) (cb_drop (by k_asm) (sb_keep (sb_skip (sb_keep (sb_skip (sb_skip (sb_skip (sb_skip (fun _ h => h))))))))) (lc_gate hk2 hw9 hv9) | exact hret _ _ _ _ (by k_asm) (cb_drop (by k_asm) (sb_keep (sb_skip (sb_keep (sb_skip (sb_skip (sb_skip (sb_skip (sb_skip (sb_skip (fun _ h => h))))))))))) (lc_gate hk2 hw9 hv9) | exact hret _ _ _ _ (by k_asm) (cb_drop (by k_asm) (sb_keep (sb_skip (sb_keep (sb_skip (sb_skip (sb_skip (fun _ h => h)))))))) (lc_gate hk2 hw9 hv9)
      · first | exact hret _ _ _ _ (by k_asm) (cb_drop (by k_asm) (sb_keep (sb_skip (sb_skip (sb_skip (sb_skip (fun _ h => h))))))) (lc_gateN hk2 hw9) | exact hret _ _ _ _ (by k_asm) (cb_drop (by k_asm) (sb_keep (sb_skip (sb_skip (sb_skip (sb_skip (sb_skip (sb_skip (fun _ h => h))))))))) (lc_gateN hk2 hw9) | exact hret _ _ _ _ (by k_asm) (cb_drop (by k_asm) (sb_keep (sb_skip (sb_skip (sb_skip (fun _ h => h)))))) (lc_gateN hk2 hw9)
    · have hk4 := hk5.resolve_left hk2
      have e4 := kw_st hk4 hw9
      refine Stop.mk ?_
      k_steps
      · exact hret _ _ _ _ (by k_asm) (cb_drop (by k_asm) (sb_keep (sb_skip (sb_keep (sb_skip (sb_skip (sb_skip (sb_skip (fun _ h => h))))))))) (lc_stQ hk4 hw9 hv9)
      all_goals (subst e4)
      · exact hret _ _ _ _ (by k_asm) (cb_drop (by k_asm) (sb_keep (sb_keep (sb_skip (sb_skip (sb_skip (sb_skip (fun _ h => h)))))))) lc_latch
      all_goals exact hret _ _ _ _ (by k_asm) (cb_drop (by k_asm) (sb_keep (sb_keep (sb_skip (sb_skip (sb_skip (sb_skip (fun _ h => h)))))))) (by first | exact lc_flopT (by assumption) | exact lc_flopF (by assumption))
end

end
section
open PySem PySem.W PyProof.Rows
theorem small_w {W : Int} (h0 : 0 ≤ W) (h1 : W ≤ 70) : Builtin.Range.small 0 W 1 = true := small_one (by omega) (by omega) (by omega) (by omega)
theorem small_n {W : Int} {n : Nat} (h : W = (n : Int)) (hn : n ≤ 70) : Builtin.Range.small 0 W 1 = true := small_w (by omega) (by omega)
theorem size_n {n : Nat} (hn : n ≤ 70) : n ≤ sizeLine := by rw [PySem.sizeLine_eq]; omega
theorem size_w {W : Int} (h1 : W ≤ 70) : W.toNat ≤ 70 := by omega
theorem rng_n {W : Int} {n : Nat} (h : W = (n : Int)) : Builtin.Range.rangeSize 0 W 1 = (n : Int) := by rw [h]; simpa using rangeSize_nat 0 n
/-- the netlist's fields -/
abbrev netO (hs : Int × Int × Int × Int × Int) (ts : Tok × Tok × Tok × Tok × Tok × Tok) (t0 : Tok) (count : Int) (ia oa ca : Addr) : Obj :=
  dictOf [⟨hs.1, .str (Str.ofString "name") ts.1, .str (Str.ofString "m") ts.2.1⟩, ⟨hs.2.1, .str (Str.ofString "count") ts.2.2.1, .int count t0⟩, ⟨hs.2.2.1, .str (Str.ofString "inputs") ts.2.2.2.1, .ref ia⟩, ⟨hs.2.2.2.1, .str (Str.ofString "outputs") ts.2.2.2.2.1, .ref oa⟩, ⟨hs.2.2.2.2, .str (Str.ofString "cells") ts.2.2.2.2.2, .ref ca⟩] 5
/-- the first n nets of an input -/
def bitsOf (n : Nat) : List Int := (List.range n).map fun (i : Nat) => (2 + (i : Int) : Int)
theorem bitsOf_succ (n : Nat) : bitsOf (n + 1) = bitsOf n ++ [2 + (n : Int)] := by simp [bitsOf, List.range_succ]
theorem bitsOf_len (n : Nat) : (bitsOf n).length = n := by simp [bitsOf]
theorem listCopy {prog : Program} {w : World} {A : Around} {E : Value → Shared → Prop} {hp : Heap} {gn : Array GenState} {dr : Drawn} {st : Nat} {os : OsState} {h₀ : Heap} {L : Addr} {m : Str → Option Value} {news : List (Addr × Obj)} {l : Addr} {vs : List Value} {n : Nat} {Q : Value → Shared → Prop} (F : Fr h₀ L hp m) (N : News h₀ L hp news) (hm : (l, listOf vs.toArray n) ∈ news) (hz : vs.length ≤ 16384)
    (h : ∀ D c h', Fr h₀ L h' m → News h₀ L h' ((D, listOf vs.toArray c) :: news) → (∀ q ∈ news, q.1 < D) → Q (.ref D) ⟨h', gn, dr, st, os⟩) : wpAny (model prog w) A (call (.type "list") [.ref l]) Q E ⟨hp, gn, dr, st, os⟩ :=
  list_copyK F N (N.isList hm) h (by rw [PySem.sizeLine_eq]; simp only [List.size_toArray]; omega)
theorem tupCopy {prog : Program} {w : World} {A : Around} {E : Value → Shared → Prop} {hp : Heap} {gn : Array GenState} {dr : Drawn} {st : Nat} {os : OsState} {h₀ : Heap} {L : Addr} {m : Str → Option Value} {news : List (Addr × Obj)} {l : Addr} {vs : List Value} {n : Nat} {Q : Value → Shared → Prop} (F : Fr h₀ L hp m) (N : News h₀ L hp news) (hm : (l, listOf vs.toArray n) ∈ news) (hz : vs.length ≤ 16384)
    (h : ∀ D h', Fr h₀ L h' m → News h₀ L h' ((D, tupO vs) :: news) → (∀ q ∈ news, q.1 < D) → Q (.ref D) ⟨h', gn, dr, st, os⟩) : wpAny (model prog w) A (call (.type "tuple") [.ref l]) Q E ⟨hp, gn, dr, st, os⟩ := by
  refine call_tuple_list (N.isList hm) (fun h' hk => ?_) (by rw [PySem.sizeLine_eq]; simp only [List.size_toArray]; omega)
  have F1 := F.keeps hk
  have N1 := N.grown hk
  exact h _ _ (F1.push _) (News.push F1 N1 _ rfl) fun q hq => Heap.lt_size (N1 q hq).1
theorem off1_mem {D : Addr} : ∀ {l : List (Addr × Obj)}, LCg.Off1 D l → ∀ p ∈ l, (@Ne Nat p.1 D)
  | [], _, _, h => nomatch h
  | _ :: _, x, p, h => by
    rcases List.mem_cons.mp h with rfl | h
    · exact x.1
    · exact off1_mem x.2 p h
section
variable {prog : Program} {w : World} {A : Around} {h₀ : Heap} {L : Addr} {m : Str → Option Value} {env : Env} {elt : Expr} {x : Str} {scope : Scope} {cl : List (Str × Addr)} {s s₂ : Shared} {S : List (Addr × Obj) → Prop} {news : List (Addr × Obj)} {Q : Value → Shared → Prop}
/-- a comprehension over a range whose element changes one object of the ledger (Dx: its state by turns) -/
theorem compN {n : Nat} (dx : Addr) (Dx : Nat → Obj → Prop) (R : List (Addr × Obj)) (f : Nat → Int) (o₀ : Obj) (h0 : Dx 0 o₀) (hs : ∀ p ∈ (dx, o₀) :: R, p ∈ news)
    (turn : ∀ (i : Nat) t I oI C oC D m₂ ys h tk (E' : Value → Shared → Prop) o, i < n → Dx i o → LCg.NsObj oC m₂ → m₂ x = some (.int (i : Int) t) → Fr h₀ L h m → News h₀ L h ((I, oI) :: (C, oC) :: (D, LCg.lst ys) :: (dx, o) :: R) → LCg.Off3 I C D ((dx, o) :: R) → ((@Ne Nat I C) ∧ (@Ne Nat I D) ∧ (@Ne Nat C D)) →
      wpAny (model prog w) A (eval elt (compEnvC scope cl C env)) (LCg.CompEnd h₀ L m { s with heap := h, toks := tk } I oI C oC D (LCg.lst ys) S (fun y news' => ∃ o', Dx (i + 1) o' ∧ news' = (dx, o') :: R ∧ ∃ t, y = .int (f i) t)) E' { s with heap := h, toks := tk })
    (fin : ∀ ys D h tk o, Dx n o → IntsAre ys ((List.range n).map f) → Fr h₀ L h m → News h₀ L h ((D, LCg.lst ys) :: (dx, o) :: R) → (∀ p ∈ (dx, o) :: R, (@Ne Nat p.1 D)) → Q (.ref D) { s₂ with heap := h, toks := tk }) :
    LCg.CompRest prog w A h₀ L m env elt x scope cl s S (fun i v => ∃ t, v = .int (0 + (i : Int)) t) (LCg.FinE h₀ L m s₂ Q) n 0 [] news := by
  have key : ∀ (j i : Nat) (ys : List Value) (nw : List (Addr × Obj)) (o : Obj), i + j = n → Dx i o → (∀ p ∈ (dx, o) :: R, p ∈ nw) → IntsAre ys ((List.range i).map f) → LCg.CompRest prog w A h₀ L m env elt x scope cl s S (fun i v => ∃ t, v = .int (0 + (i : Int)) t) (LCg.FinE h₀ L m s₂ Q) j i ys nw := by
    intro j
    induction j with
    | zero =>
      intro i ys nw o hi ho hn hy
      have e : i = n := by omega
      subst e
      refine LCg.CompRest.zero fun D h tk F N off => fin ys D h tk o ho hy F (fun p hp => N p ?_) fun p hp => off1_mem off p (hn p hp)
      rcases List.mem_cons.mp hp with rfl | hp
      · exact .head _
      · exact .tail _ (hn p hp)
    | succ j ih =>
      intro i ys nw o hi ho hn hy
      refine LCg.CompRest.succ ?_
      rintro v I oI C oC D m₂ h tk E' ⟨t, rfl⟩ hC hx F N off ne
      rw [Int.zero_add] at hx
      have N' : News h₀ L h ((I, oI) :: (C, oC) :: (D, LCg.lst ys) :: (dx, o) :: R) := fun p hp => N p (by
        rcases List.mem_cons.mp hp with rfl | hp
        · exact .head _
        rcases List.mem_cons.mp hp with rfl | hp
        · exact .tail _ (.head _)
        rcases List.mem_cons.mp hp with rfl | hp
        · exact .tail _ (.tail _ (.head _))
        · exact .tail _ (.tail _ (.tail _ (hn p hp))))
      refine wpAny_mono (turn i t I oI C oC D m₂ ys h tk E' o (by omega) ho hC hx F N' (LCg.Off3.of fun p hp => off.mem p (hn p hp)) ne) (fun y s₃ hq => ?_) fun _ _ e => e
      obtain ⟨h', tk', nw', e, F', N2, off', hS, o', ho', hn', t', hy'⟩ := hq
      refine ⟨h', tk', nw', e, F', N2, off', hS, ?_⟩
      rw [hy']
      refine ih (i + 1) _ nw' o' (by omega) ho' (by rw [hn']; exact fun p hp => hp) ?_
      rw [List.range_succ, List.map_append]
      exact IntsAre.append hy (.cons (f i) t' .nil)
  exact key n 0 [] news o₀ (by omega) h0 hs .nil
end

end
section
open PySem PySem.W PyProof.Rows
theorem nn_sub {α : Type} {q a b c : α} {R : List α} (h : q ∈ a :: b :: R) : q ∈ b :: c :: a :: R :=
  (List.forall_mem_cons.mpr ⟨.tail _ (.tail _ (.head _)), List.forall_mem_cons.mpr ⟨.head _, fun q hq => .tail _ (.tail _ (.tail _ (hq)))⟩⟩) _ h
section
variable {prog : Program} {w : World} {p : Program} {loose : List Str} {mean : ExcName → Option Value} {mg mb : Str → Option Value} {news : List (Addr × Obj)}
def NNPost (n : Nat) (x dx ia oa ca : Addr) (hs : Int × Int × Int × Int × Int) (ts : Tok × Tok × Tok × Tok × Tok × Tok) (R : List (Addr × Obj)) (r : Value) (nx : List (Addr × Obj)) : Prop :=
  ∃ D ys t0, r = .ref D ∧ nx = (D, listOf ys.toArray n) :: (x, instObj 141 dx) :: (dx, netO hs ts t0 (2 + n) ia oa ca) :: R ∧ IntsAre ys (bitsOf n) ∧ ys.length = n ∧ ∀ q ∈ (x, instObj 141 dx) :: (dx, netO hs ts t0 (2 + n) ia oa ca) :: R, q.1 ≠ D
set_option maxRecDepth 100000 in
set_option maxHeartbeats 8000000 in
theorem nn_con (x dx ia oa ca : Addr) (hs : Int × Int × Int × Int × Int) (ts : Tok × Tok × Tok × Tok × Tok × Tok) (t0 tW : Tok) (n : Nat) (W : Int) (R : List (Addr × Obj)) (hW : W = (n : Int)) (hn : n ≤ 70) (hR : ∀ q ∈ R, q.1 ≠ dx) (hxd : x ≠ dx) :
    Con prog w p loose mean mg mb 4 94 [.ref x, .int W tW] ((x, instObj 141 dx) :: (dx, netO hs ts t0 2 ia oa ca) :: R) (NNPost n x dx ia oa ca hs ts R) := by
  w_top off; (have hfill : PySem.Challenge.rw_pq0453_01 = PySem.Challenge.rw_pq0453_01 ∧ hd.heap_39 = hd.heap_39 := (by k_fill; exact ⟨rfl, rfl⟩)); clear hfill
  k_with_none
  k_with "ite" => (k_closed; first | ((with_reducible refine ite_pos ?k1 ?_); (case k1 => decide)) | ((with_reducible refine ite_neg ?k1 ?_); (case k1 => decide)))
  k_with "storeName" => (k_here; k_dflt (refine' storeL ?F ?N ?_ ?a ?b; (case F => k_asm); (case N => k_asm); (case a => rfl); (case b => rfl); k_whole; intro h' tk' mm' F' N'))
  k_with "CompSrc" => (refine Stop.out ?_)
  k_with "CompEnd" => (refine Stop.out ?_)
  unfold Con
  intro dp un gd cn cs a ccd cl outer A₀ base h₀ L m sheap sgens sdrawn stoks sos Q E B F X N T hk hdp hun hret
  obtain ⟨ck, cna, cb1, cb2, cva⟩ := cs
  dsimp only at hk
  subst hk
  k_steps
  rename_i g1 L1 h1 tk1 FG1 F1 B1 X1 T1 l1 o1 d1 N1 h2 tk2 t1 u1 v1 hr2 F2 N2 K2
  refine Stop.mk ?_
  refine LCg.CompSrc.range (n := n) rfl F2 N2 hr2 (small_n hW hn) (rng_n hW) (size_n hn) ?_
  intro g2
  refine compN dx (fun i o => ∃ t, o = netO hs ts t (2 + i) ia oa ca) ((L1 + 1, o1) :: (x, instObj 141 dx) :: R) (fun i => 2 + i) (netO hs ts t0 2 ia oa ca) ⟨t0, rfl⟩ ?_ ?_ ?_
  · intro p hp
    rcases List.mem_cons.mp hp with rfl | hp
    · exact .tail _ (.tail _ (.head _))
    rcases List.mem_cons.mp hp with rfl | hp
    · exact .head _
    rcases List.mem_cons.mp hp with rfl | hp
    · exact .tail _ (.head _)
    · exact .tail _ (.tail _ (.tail _ hp))
  · clear N1 F1 N2 F2 K2 hr2 hret
    rintro i t I oI C oC D m₂ ys h tk E' o hin ⟨tq, rfl⟩ hC hx F3 N3 off ne
    simp only [LCg.Off3, and_true] at off
    obtain ⟨⟨o2, o3, o4⟩, ⟨o5, o6, o7⟩, ⟨o8, o9, o10⟩, o11⟩ := off
    have l2 : dx < L1 + 1 := Nat.lt_succ_of_lt l1.2.1
    k_steps
    refine Stop.mk ?_
    rename Fr _ _ _ _ => F9
    rename News _ _ _ _ => N9
    have e2 : (2 : Int) + ((i + 1 : Nat) : Int) = 2 + (i : Int) + 1 := cnt1
    obtain ⟨tz, N8⟩ : ∃ tz, News g1 L1 _ ((I, oI) :: (C, oC) :: (D, LCg.lst ys) :: (dx, netO hs ts tz (2 + (i : Int) + 1) ia oa ca) :: (L1 + 1, o1) :: (x, instObj 141 dx) :: R) := ⟨_, N9⟩
    exact LCg.CompEnd.intro F9 N8 _ (fun _ h => h) ⟨⟨o2, o3, o4⟩, ⟨o5, o6, o7⟩, ⟨o8, o9, o10⟩, o11⟩ trivial ⟨_, ⟨tz, by rw [e2]⟩, rfl, _, rfl⟩
  · clear N1 F1 N2 F2 K2 hr2
    rintro ys D h tk o ⟨tq, rfl⟩ hy F3 N3 off
    dsimp only
    k_steps
    rename News h₀ _ _ _ => N8
    have hyl : ys.length = n := by rw [hy.length, List.length_map, List.length_range]
    subst hyl
    refine hret _ _ _ _ (by k_asm) (fun p hp => N8 p ?_) ⟨D, ys, tq, rfl, rfl, hy, rfl, fun q hq => off q (nn_sub hq)⟩
    rcases List.mem_cons.mp hp with rfl | hp
    · exact .head _
    · exact .tail _ (nn_sub hp)
end

end
section
open PySem PySem.W PyProof.Rows
theorem ai_sub {α : Type} {p u b d x y i : α} {R : List α} (h : p ∈ i :: u :: b :: d :: x :: y :: R) : p ∈ u :: b :: d :: x :: y :: i :: R :=
  (List.forall_mem_cons.mpr ⟨.tail _ (.tail _ (.tail _ (.tail _ (.tail _ (.head _))))), List.forall_mem_cons.mpr ⟨.head _, List.forall_mem_cons.mpr ⟨.tail _ (.head _), List.forall_mem_cons.mpr ⟨.tail _ (.tail _ (.head _)), List.forall_mem_cons.mpr ⟨.tail _ (.tail _ (.tail _ (.head _))), List.forall_mem_cons.mpr ⟨.tail _ (.tail _ (.tail _ (.tail _ (.head _)))), fun q hq => .tail _ (.tail _ (.tail _ (.tail _ (.tail _ (.tail _ (hq))))))⟩⟩⟩⟩⟩⟩) _ h
theorem ai_sub2 {α : Type} {p u b d x y i : α} {R : List α} (h : p ∈ u :: b :: d :: i :: x :: y :: R) : p ∈ i :: u :: b :: d :: x :: y :: R :=
  (List.forall_mem_cons.mpr ⟨.tail _ (.head _), List.forall_mem_cons.mpr ⟨.tail _ (.tail _ (.head _)), List.forall_mem_cons.mpr ⟨.tail _ (.tail _ (.tail _ (.head _))), List.forall_mem_cons.mpr ⟨.head _, List.forall_mem_cons.mpr ⟨.tail _ (.tail _ (.tail _ (.tail _ (.head _)))), List.forall_mem_cons.mpr ⟨.tail _ (.tail _ (.tail _ (.tail _ (.tail _ (.head _))))), fun q hq => .tail _ (.tail _ (.tail _ (.tail _ (.tail _ (.tail _ (hq))))))⟩⟩⟩⟩⟩⟩) _ h
section
variable {prog : Program} {w : World} {p : Program} {loose : List Str} {mean : ExcName → Option Value} {mg mb : Str → Option Value} {news : List (Addr × Obj)}
def AIPost (n : Nat) (x dx ia oa ca : Addr) (hs : Int × Int × Int × Int × Int) (ts : Tok × Tok × Tok × Tok × Tok × Tok) (R : List (Addr × Obj)) (r : Value) (nx : List (Addr × Obj)) : Prop :=
  ∃ D B U ys t0 ta n1 n2 n3, r = .ref D ∧ nx = (U, tupO [.str (Str.ofString "a") ta, .ref B]) :: (B, listOf ys.toArray n2) :: (D, listOf ys.toArray n1) :: (ia, listOf [Value.ref U].toArray n3) :: (x, instObj 141 dx) :: (dx, netO hs ts t0 (2 + n) ia oa ca) :: R ∧ IntsAre ys (bitsOf n) ∧ ys.length = n ∧ ∀ q ∈ R, q.1 ≠ D ∧ q.1 ≠ B ∧ q.1 ≠ U
set_option maxRecDepth 100000 in
set_option maxHeartbeats 8000000 in
theorem ai_con (x dx ia oa ca : Addr) (hs : Int × Int × Int × Int × Int) (ts : Tok × Tok × Tok × Tok × Tok × Tok) (t0 ta tW : Tok) (n0 n : Nat) (W : Int) (R : List (Addr × Obj)) (hW : W = (n : Int)) (hn : n ≤ 70) (hR : ∀ q ∈ (ia, listOf ([] : List Value).toArray n0) :: R, q.1 ≠ dx) (hxd : x ≠ dx) (hR2 : ∀ q ∈ R, q.1 ≠ ia) (hxi : x ≠ ia) (hdi : dx ≠ ia) :
    Con prog w p loose mean mg mb 6 101 [.ref x, .str (Str.ofString "a") ta, .int W tW] ((x, instObj 141 dx) :: (dx, netO hs ts t0 2 ia oa ca) :: (ia, listOf ([] : List Value).toArray n0) :: R) (AIPost n x dx ia oa ca hs ts R) := by
  w_top off; (have hfill : PySem.Challenge.rw_pq0453_01 = PySem.Challenge.rw_pq0453_01 ∧ hd.heap_39 = hd.heap_39 := (by k_fill; exact ⟨rfl, rfl⟩)); clear hfill
  k_with_none
  k_with "ite" => (k_closed; first | ((with_reducible refine ite_pos ?k1 ?_); (case k1 => decide)) | ((with_reducible refine ite_neg ?k1 ?_); (case k1 => decide)))
  k_with "storeName" => (k_here; k_dflt (refine' storeL ?F ?N ?_ ?a ?b; (case F => k_asm); (case N => k_asm); (case a => rfl); (case b => rfl); k_whole; intro h' tk' mm' F' N'))
  k_with "call ref" => (k_here; (with_reducible show wpAny _ _ (call (Value.ref 94) _) _ _ _); k_dflt ((refine' Con.use (nn_con _ _ _ _ _ _ _ _ _ n _ _ ?q1 ?q2 ?q3 ?q4) ?k1 ?k2 ?k3 ?k4 ?k5 ?kK ?kd ?ku ?_; (case k1 => k_asm); (case k2 => k_asm); (case k3 => k_asm); (case k4 => k_asm); (case k5 => k_asm); (case kK => first | exact rfl | assumption); (case q1 => assumption); (case q2 => assumption); (case q3 => assumption); (case q4 => assumption); (case kd => first | exact room1 hdp rfl | exact room0 hdp rfl | ktr_room); (case ku => first | exact room2 hun rfl | exact room3 hun rfl | ktr_units)); intro r9 nx9 h9 tk9 F9 N9 hP9; (refine hide fun P9 hX9 => ?_); (obtain ⟨D9, ys9, t9, e9, e8, hi9, hyl9, hd9⟩ := hP9; subst e9; subst e8); (refine hX9 ?_); clear hX9; (try dsimp only); (try k_fold)))
  k_with "call type:list" => (k_here; (with_reducible show wpAny _ _ (call (Value.type "list") [Value.ref _]) _ _ _); k_dflt (refine' listCopy ?k1 ?k2 ?k3 ?k4 ?_; (case k1 => k_asm); (case k2 => k_asm); (case k3 => k_mem); (case k4 => first | exact Nat.le_trans (by assumption) (by decide) | omega)); intro B9 c9 h9 F9 N9 l9)
  k_with "call builtin:list.append" => (refine Stop.out ?_)
  (unfold Con; intro dp un gd cn cs a ccd cl outer A₀ base h₀ L m sheap sgens sdrawn stoks sos Q E B F X N T hk hdp hun hret; refine wpAny_call ?_; k_dflt (refine' code_defL ?k1 ?k2 ?k3 ?k4 ?k5 ?kA ?kF ?kK ?k6 ?k7 ?k8 ?k9 ?kB ?_ ?c2 ?c3 ?c4 ?c5; (case kA => exact rfl); (case kF => exact rfl); (case kK => assumption); (case k1 => k_asm); (case k2 => k_asm); (case k3 => k_asm); (case k4 => k_asm); (case k5 => k_asm); (case k6 => k_is); (case k7 => k_is); (case k8 => first | exact Nat.lt_of_le_of_lt (Nat.le_add_right _ _) hdp | ktr_room); (case k9 => exact BindsTo.of_eq rfl); (case c5 => decide); (case kB => exact locs rfl); (case c2 => exact rfl); (case c3 => exact rfl); (case c4 => exact rfl); k_whole; intro g' L' h' tk' en' An' mm' FG' F' N' B' X' T' qq' ee'; (try dsimp only); (try k_lift B')))
  k_steps
  rename_i U h8 F8 N8 lU
  have u1 := hR2
  refine Stop.mk ?_
  refine append_mu (vs := []) (n := n0) (rest := (U, tupO [.str (Str.ofString "a") ta, .ref B9]) :: (B9, listOf ys9.toArray c9) :: (D9, listOf ys9.toArray n) :: (x, instObj 141 dx) :: (dx, netO hs ts t9 (2 + n) ia oa ca) :: R) F8 N8 ?_ ?_ (by decide) ?_
  · exact fun p hp => ai_sub hp
  · have i1 := hd9 _ (.tail _ (.tail _ (.head _)))
    have i2 := l9 _ (.tail _ (.tail _ (.tail _ (.head _))))
    exact List.forall_mem_cons.mpr ⟨Nat.ne_of_gt lU.2.2.2.2.1, List.forall_mem_cons.mpr ⟨Nat.ne_of_gt i2, List.forall_mem_cons.mpr ⟨Ne.symm i1, List.forall_mem_cons.mpr ⟨hxi, List.forall_mem_cons.mpr ⟨hdi, hR2⟩⟩⟩⟩⟩
  · intro h7 F7 N7
    k_steps
    rename News h₀ _ _ _ => N6
    refine hret _ _ _ _ (by k_asm) (fun p hp => N6 p (ai_sub2 hp)) ⟨D9, B9, U, ys9, t9, ta, n, c9, _, rfl, rfl, hi9, hyl9, fun q hq => ⟨hd9 _ (.tail _ (.tail _ (.tail _ hq))), Nat.ne_of_lt (l9 _ (.tail _ (.tail _ (.tail _ (.tail _ hq))))), Nat.ne_of_lt (ktn_ltOf lU.2.2.2.2.2 q hq)⟩⟩
end

end
section
open PySem PySem.W PyProof.Rows
section
variable {prog : Program} {w : World} {p : Program} {loose : List Str} {mean : ExcName → Option Value} {mg mb : Str → Option Value} {news : List (Addr × Obj)}
def MkPost (news : List (Addr × Obj)) (r : Value) (nx : List (Addr × Obj)) : Prop :=
  ∃ x dx ia oa ca hs ts t0 n1 n2 n3, r = .ref x ∧ nx = (x, instObj 141 dx) :: (dx, netO hs ts t0 2 ia oa ca) :: (ia, listOf ([] : List Value).toArray n1) :: (oa, listOf ([] : List Value).toArray n2) :: (ca, listOf ([] : List Value).toArray n3) :: news ∧ (∀ q ∈ news, q.1 < dx) ∧ dx < x ∧ x < ia ∧ ia < oa ∧ oa < ca
theorem mk_sub {α : Type} {p x d i o c : α} {R : List α} (h : p ∈ x :: d :: i :: o :: c :: R) : p ∈ c :: o :: i :: x :: d :: R :=
  (List.forall_mem_cons.mpr ⟨.tail _ (.tail _ (.tail _ (.head _))), List.forall_mem_cons.mpr ⟨.tail _ (.tail _ (.tail _ (.tail _ (.head _)))), List.forall_mem_cons.mpr ⟨.tail _ (.tail _ (.head _)), List.forall_mem_cons.mpr ⟨.tail _ (.head _), List.forall_mem_cons.mpr ⟨.head _, fun q hq => .tail _ (.tail _ (.tail _ (.tail _ (.tail _ (hq)))))⟩⟩⟩⟩⟩) _ h
set_option maxRecDepth 100000 in
set_option maxHeartbeats 8000000 in
theorem mk_con (t0 : Tok) : Con prog w p loose mean mg mb 3 141 [.str (Str.ofString "m") t0] news (MkPost news) := by
  w_top off; (have hfill : PySem.Challenge.rw_pq0453_01 = PySem.Challenge.rw_pq0453_01 ∧ hd.heap_39 = hd.heap_39 := (by k_fill; exact ⟨rfl, rfl⟩)); clear hfill
  k_with_none
  k_with "ite" => (k_closed; first | ((with_reducible refine ite_pos ?k1 ?_); (case k1 => decide)) | ((with_reducible refine ite_neg ?k1 ?_); (case k1 => decide)))
  k_with "storeName" => (k_here; k_dflt (refine' storeL ?F ?N ?_ ?a ?b; (case F => k_asm); (case N => k_asm); (case a => rfl); (case b => rfl); k_whole; intro h' tk' mm' F' N'))
  unfold Con
  intro dp un gd cn cs a ccd cl outer A₀ base h₀ L m sheap sgens sdrawn stoks sos Q E B F X N T hk hdp hun hret
  obtain ⟨ck, cna, cb1, cb2, cva⟩ := cs
  dsimp only at hk
  subst hk
  k_steps
  rename_i x1 d1 h0 F0 N0 l1 l2 g1 L1 h1 FG1 B1 X1 T1 tk1 h2 h3 ia h4 lia h5 tk2 oa h6 loa h7 tk3 ca h8 lca h9 F9 N9 kF kN Tc kX
  exact hret _ _ _ _ kF (fun p hp => kN p (mk_sub hp)) ⟨x1, d1, ia, oa, ca, (_, _, _, _, _), (_, _, _, _, _, _), _, _, _, _, rfl, rfl, l1, l2, lia.1, loa.1, lca.1⟩
end

end
section
open PySem PySem.W PyProof.Rows
section
variable {prog : Program} {w : World} {p : Program} {loose : List Str} {mean : ExcName → Option Value} {mg mb : Str → Option Value} {news : List (Addr × Obj)}
def ACPost (x dx ia oa ca : Addr) (hs : Int × Int × Int × Int × Int) (ts : Tok × Tok × Tok × Tok × Tok × Tok) (count : Int) (kind : Str) (pv : Value) (cvs ivs : List Value) (R : List (Addr × Obj)) (r : Value) (nx : List (Addr × Obj)) : Prop :=
  ∃ D U t0 n1 kt ot rt, r = .int count rt ∧ nx = (ca, listOf (cvs ++ [Value.ref D]).toArray n1) :: (D, tupO [.str kind kt, .int count ot, .ref U, pv]) :: (U, tupO ivs) :: (x, instObj 141 dx) :: (dx, netO hs ts t0 (count + 1) ia oa ca) :: R ∧ (∀ q ∈ R, q.1 < U) ∧ dx < U ∧ ca < U ∧ U < D
theorem ac_sub {α : Type} {p c d u x y : α} {R : List α} (h : p ∈ c :: d :: u :: x :: y :: R) : p ∈ d :: u :: x :: y :: c :: R :=
  (List.forall_mem_cons.mpr ⟨.tail _ (.tail _ (.tail _ (.tail _ (.head _)))), List.forall_mem_cons.mpr ⟨.head _, List.forall_mem_cons.mpr ⟨.tail _ (.head _), List.forall_mem_cons.mpr ⟨.tail _ (.tail _ (.head _)), List.forall_mem_cons.mpr ⟨.tail _ (.tail _ (.tail _ (.head _))), fun q hq => .tail _ (.tail _ (.tail _ (.tail _ (.tail _ (hq)))))⟩⟩⟩⟩⟩) _ h
set_option maxRecDepth 100000 in
set_option maxHeartbeats 8000000 in
theorem ac_con (x dx ia oa ca ai : Addr) (hs : Int × Int × Int × Int × Int) (ts : Tok × Tok × Tok × Tok × Tok × Tok) (t0 kt : Tok) (n0 n : Nat) (count : Int) (kind : Str) (pv : Value) (cvs ivs : List Value) (R : List (Addr × Obj)) (hai : (ai, listOf ivs.toArray n) ∈ R) (hR : ∀ q ∈ R, q.1 ≠ dx) (hR2 : ∀ q ∈ R, q.1 ≠ ca) (hxd : x ≠ dx) (hxc : x ≠ ca) (hcd : ca ≠ dx) (hl : cvs.length ≤ 4) (hil : ivs.length ≤ 70) :
    Con prog w p loose mean mg mb 4 116 [.ref x, .str kind kt, .ref ai, pv] ((x, instObj 141 dx) :: (dx, netO hs ts t0 count ia oa ca) :: (ca, listOf cvs.toArray n0) :: R) (ACPost x dx ia oa ca hs ts count kind pv cvs ivs R) := by
  w_top off; (have hfill : PySem.Challenge.rw_pq0453_01 = PySem.Challenge.rw_pq0453_01 ∧ hd.heap_39 = hd.heap_39 := (by k_fill; exact ⟨rfl, rfl⟩)); clear hfill
  k_with_none
  k_with "ite" => (k_closed; first | ((with_reducible refine ite_pos ?k1 ?_); (case k1 => decide)) | ((with_reducible refine ite_neg ?k1 ?_); (case k1 => decide)))
  k_with "storeName" => (k_here; k_dflt (refine' storeL ?F ?N ?_ ?a ?b; (case F => k_asm); (case N => k_asm); (case a => rfl); (case b => rfl); k_whole; intro h' tk' mm' F' N'))
  k_with "call type:tuple" => (k_here; (with_reducible show wpAny _ _ (call (Value.type "tuple") [Value.ref _]) _ _ _); k_dflt (refine' tupCopy ?k1 ?k2 ?k3 ?k4 ?_; (case k1 => k_asm); (case k2 => k_asm); (case k3 => k_mem); (case k4 => first | exact Nat.le_trans (by assumption) (by decide) | omega)); intro T9 h9 F9 N9 l9)
  k_with "call builtin:list.append" => (refine Stop.out ?_)
  unfold Con
  intro dp un gd cn cs a ccd cl outer A₀ base h₀ L m sheap sgens sdrawn stoks sos Q E B F X N T hk hdp hun hret
  obtain ⟨ck, cna, cb1, cb2, cva⟩ := cs
  dsimp only at hk
  subst hk
  k_steps
  rename_i D1 h8 F8 N8 l8
  obtain ⟨tz, N7⟩ : ∃ tz, News _ _ _ ((D1, tupO [.str kind kt, .int count t0, .ref T9, pv]) :: (T9, tupO ivs) :: (x, instObj 141 dx) :: (dx, netO hs ts tz (count + 1) ia oa ca) :: (ca, listOf cvs.toArray n0) :: R) := ⟨_, N8⟩
  have j1 := l9 _ (.tail _ (.tail _ (.head _)))
  have j2 := l9 _ (.tail _ (.head _))
  have j3 := fun q hq => l9 q (.tail _ (.tail _ (.tail _ hq)))
  have j4 := l8.1
  have j5 := l8.2.2.2.1
  refine Stop.mk ?_
  refine append_mu (vs := cvs) (n := n0) F8 N7 (fun _ hp => ac_sub hp) ?_ (by omega) ?_
  · exact List.forall_mem_cons.mpr ⟨Nat.ne_of_gt j5, List.forall_mem_cons.mpr ⟨Nat.ne_of_gt j1, List.forall_mem_cons.mpr ⟨hxc, List.forall_mem_cons.mpr ⟨Ne.symm hcd, hR2⟩⟩⟩⟩
  · intro h7 F7 N6
    clear N7 N8 F8
    k_steps
    rename News h₀ _ _ _ => N5
    exact hret _ _ _ _ (by k_asm) N5 ⟨D1, T9, tz, _, kt, t0, t0, rfl, rfl, j3, j2, j1, j4⟩
end

end
section
open PySem PySem.W PyProof.Rows PySem.SeqAt
section
variable {prog : Program} {w : World} {A : Around} {E : Value → Shared → Prop} {s : Shared} {h₀ : Heap} {L : Addr} {news : List (Addr × Obj)} {Q : Value → Shared → Prop}
theorem allT (n : Nat) : (List.range n).all (fun _ => true) = true := List.all_eq_true.mpr fun _ _ => rfl
theorem News.tupleAt {a : Addr} {vs : List Value} (N : News h₀ L s.heap news) (h : (a, tupO vs) ∈ news) : s.heap.IsTuple a vs.toArray := ⟨_, (N _ h).1, rfl, _, rfl⟩
/-- a list and its copy -/
theorem eqKept {l b : Addr} {vs : List Value} {n n' : Nat} (N : News h₀ L s.heap news) (h1 : (l, listOf vs.toArray n) ∈ news) (h2 : (b, listOf vs.toArray n') ∈ news) (hu : A.units + 2 < cLine) (h : Q (.bool true) s) :
    wpAny (model prog w) A (compareOp .Eq (.ref l) (.ref b)) Q E s :=
  eq_listAt (e := fun _ => true) (N.isList h1) (N.isList h2) rfl (by omega) (fun j a b => EqAt.same _) (by rw [allT]; exact h)
/-- two lists of the same faults -/
theorem eqDue {l b : Addr} {vs ws : List Value} {xs : List Int} {n n' : Nat} (N : News h₀ L s.heap news) (h1 : (l, listOf vs.toArray n) ∈ news) (h2 : (b, listOf ws.toArray n') ∈ news) (r1 : Rel2 (FaultIn news) vs xs) (r2 : Rel2 (FaultIn news) ws xs) (hu : A.units + 20 < cLine) (h : Q (.bool true) s) :
    wpAny (model prog w) A (compareOp .Eq (.ref l) (.ref b)) Q E s := by
  have hl : vs.length = ws.length := r1.length.trans r2.length.symm
  refine eq_listAt (e := fun _ => true) (N.isList h1) (N.isList h2) (by simpa using hl) (by omega) (fun j a b => ?_) (by rw [allT]; exact h)
  obtain ⟨o, e1, f1⟩ := r1.at j vs[j] (List.getElem?_eq_getElem (by simpa using a))
  obtain ⟨o', e2, f2⟩ := r2.at j ws[j] (List.getElem?_eq_getElem (by simpa using b))
  rw [e1] at e2
  cases e2
  simp only [List.getElem_toArray]
  generalize vs[j] = v at f1
  generalize ws[j] = v' at f2
  cases f1 with
  | mk a1 _ t u m1 =>
  cases f2 with
  | mk a2 _ t' u' m2 =>
  by_cases e : a1 = a2
  · subst e; exact EqAt.same _
  · have := RcAt.tuples (A := A.in1) (e := fun _ => true) (News.tupleAt N m1) (News.tupleAt N m2) (by show A.units + 1 < cLine; omega) (fun j h1 h2 => by
      match j, h1, h2 with
      | 0, _, _ => simpa using EqAt.str_str (A := A.in1.in1) (s := s) (Str.ofString "wrong_param") t (Str.ofString "wrong_param") t'
      | 1, _, _ => simpa using EqAt.int_int (A := A.in1.in1) (s := s) o u o u')
    exact EqAt.of_refs e this
end

end
section
open PySem PySem.W PyProof.Rows

end
section
open PySem PySem.W PyProof.Rows
theorem dueOf_app (ds : List CellD) (c : CellD) : dueOf (ds ++ [c]) = dueOf ds ++ (if c.fits then [] else [c.out]) := by
  unfold dueOf
  rw [List.filter_append, List.map_append]
  cases hf : c.fits <;> simp [hf]
/-- what the law's loop keeps -/
structure LF (W : Int) (dx ca du : Addr) (i : Nat) (cvs dvs : List Value) (ds : List CellD) (own : List (Addr × Obj)) : Prop where
  cells : Rel2 (CellIn own) cvs ds
  due : Rel2 (FaultIn own) dvs (dueOf ds)
  len : ds.length = i
  ok : ∀ c ∈ ds, c.Ok W
  out : ∀ (j : Nat) c, ds[j]? = some c → c.out = 2 + W + j
  nam : ∀ (j : Nat) c, ds[j]? = some c → isSt c.kind = true → c.fits = true → nameOf c.pd = nameQ (2 + 7 * (j : Int))
  off : ∀ q ∈ own, q.1 ≠ dx ∧ q.1 ≠ ca ∧ q.1 ≠ du
theorem LF.nil {W : Int} {dx ca du : Addr} : LF W dx ca du 0 [] [] [] [] :=
  ⟨.nil, .nil, rfl, fun _ h => (nomatch h), fun _ _ h => (nomatch h), fun _ _ h => (nomatch h), fun _ h => (nomatch h)⟩
theorem LF.lens {W : Int} {dx ca du : Addr} {i : Nat} {cvs dvs : List Value} {ds : List CellD} {own : List (Addr × Obj)} (h : LF W dx ca du i cvs dvs ds own) (hi : i ≤ 4) : cvs.length ≤ 4 ∧ dvs.length ≤ 4 ∧ ds.length ≤ 4 := by
  have h1 := h.cells.length
  have h2 := h.due.length
  have h3 := dueOf_len ds
  have h4 := h.len
  omega
/-- the nets of a cell -/
def insOf (W : Int) (n : Nat) : List Int := (List.range n).map fun (j : Nat) => (2 + (j : Int) % W : Int)
theorem insOf_len {W : Int} {n : Nat} : (insOf W n).length = n := by simp [insOf]
theorem insOf_at {W : Int} {n j : Nat} {b : Int} (h : (insOf W n)[j]? = some b) : b = 2 + (j : Int) % W := by
  unfold insOf at h
  rw [List.getElem?_map] at h
  obtain ⟨k, hk, rfl⟩ := Option.map_eq_some_iff.mp h
  obtain ⟨h1, h2⟩ := List.getElem?_eq_some_iff.mp hk
  rw [List.getElem_range] at h2
  rw [h2]
section
variable {W wd : Int} {dx ca du D U T : Addr} {i : Nat} {cvs dvs ivs : List Value} {ds : List CellD} {own own9 : List (Addr × Obj)} {kind : Str} {pv : Value} {pd : Dat} {kt ot t1 t2 : Tok}
theorem kw_ok (h : KW kind wd) {out : Int} : CellD.Ok ⟨kind, out, insOf W wd.toNat, pd⟩ W := by
  obtain ⟨h0, h1, h2⟩ := h
  have e : ((wd.toNat : Nat) : Int) = wd := Int.toNat_of_nonneg h0
  refine ⟨by show (insOf W wd.toNat).length ≤ 70; rw [insOf_len]; omega, fun j b hb => insOf_at hb, ?_⟩
  show _ ∨ (_ ∧ (insOf W wd.toNat).length = 2) ∨ (_ ∧ (insOf W wd.toNat).length = 1) ∨ (_ ∧ (insOf W wd.toNat).length = 4)
  rw [insOf_len]
  rcases h2 with h | ⟨h, e1⟩ | ⟨h, e1⟩ | ⟨h, e1⟩
  · exact .inl h
  · exact .inr (.inl ⟨h, by omega⟩)
  · exact .inr (.inr (.inl ⟨h, by omega⟩))
  · exact .inr (.inr (.inr ⟨h, by omega⟩))
theorem kw_fits (h : KW kind wd) {out : Int} : CellD.fits ⟨kind, out, insOf W wd.toNat, pd⟩ = fitsD kind wd pd := by
  show fitsD kind ((insOf W wd.toNat).length : Int) pd = _
  rw [insOf_len, Int.toNat_of_nonneg h.1]
theorem at_snoc {α : Type} {l : List α} {a c : α} {j : Nat} (h : (l ++ [a])[j]? = some c) : l[j]? = some c ∨ (j = l.length ∧ c = a) := by
  rcases Nat.lt_or_ge j l.length with hl | hl
  · rw [List.getElem?_append_left hl] at h; exact .inl h
  · rw [List.getElem?_append_right hl] at h
    have hj : j - l.length = 0 := by
      have := (List.getElem?_eq_some_iff.mp h).1
      simp at this; omega
    rw [hj] at h
    exact .inr ⟨by omega, by simpa using h.symm⟩
theorem LF.step (h : LF W dx ca du i cvs dvs ds own) (hk : KW kind wd) (hp : ParIn own9 kind pv pd) (hi : IntsAre ivs (insOf W wd.toNat)) (hn : isSt kind = true → fitsD kind wd pd = true → nameOf pd = nameQ (2 + 7 * (i : Int)))
    {own' : List (Addr × Obj)} {dvs' : List Value} (hs : ∀ p ∈ (D, tupO [.str kind kt, .int (2 + W + i) ot, .ref U, pv]) :: (U, tupO ivs) :: (own9 ++ own), p ∈ own') (hd : Rel2 (FaultIn own') dvs' (dueOf ds ++ (if fitsD kind wd pd then [] else [2 + W + (i : Int)]))) (ho : ∀ q ∈ own', q.1 ≠ dx ∧ q.1 ≠ ca ∧ q.1 ≠ du) :
    LF W dx ca du (i + 1) (cvs ++ [.ref D]) dvs' (ds ++ [⟨kind, 2 + W + i, insOf W wd.toNat, pd⟩]) own' := by
  refine ⟨Rel2.snoc (h.cells.mono fun v a r => r.mono fun p hp => hs p (.tail _ (.tail _ (List.mem_append_right _ hp)))) (CellIn.mk D U kind _ _ pd kt ot pv ivs (hs _ (.head _)) (hs _ (.tail _ (.head _))) hi (hp.mono fun p hp => hs p (.tail _ (.tail _ (List.mem_append_left _ hp))))), ?_, by rw [List.length_append, h.len]; rfl, fun c hc => ?_, fun j c hc => ?_, fun j c hc => ?_, ho⟩
  · rw [dueOf_app, kw_fits hk]; exact hd
  · rcases List.mem_append.mp hc with hc | hc
    · exact h.ok c hc
    · rw [List.mem_singleton.mp hc]; exact kw_ok hk
  · rcases at_snoc hc with hc | ⟨rfl, rfl⟩
    · exact h.out j c hc
    · rw [h.len]
  · rcases at_snoc hc with hc | ⟨rfl, rfl⟩
    · exact h.nam j c hc
    · intro a b
      rw [kw_fits hk] at b
      rw [h.len]
      exact hn a b
theorem LF.good (h : LF W dx ca du i cvs dvs ds own) (hk : KW kind wd) (hp : ParIn own9 kind pv pd) (hi : IntsAre ivs (insOf W wd.toNat)) (hn : isSt kind = true → fitsD kind wd pd = true → nameOf pd = nameQ (2 + 7 * (i : Int))) (hf : fitsD kind wd pd = true)
    (h9 : ∀ q ∈ own9, q.1 ≠ dx ∧ q.1 ≠ ca ∧ q.1 ≠ du) (hU : U ≠ dx ∧ U ≠ ca ∧ U ≠ du) (hD : D ≠ dx ∧ D ≠ ca ∧ D ≠ du) :
    ∃ ds', LF W dx ca du (i + 1) (cvs ++ [.ref D]) dvs ds' ((D, tupO [.str kind kt, .int (2 + W + i) ot, .ref U, pv]) :: (U, tupO ivs) :: (own9 ++ own)) :=
  ⟨_, h.step hk hp hi hn (fun _ hp => hp) (by rw [hf]; simp only [if_true, List.append_nil]; exact h.due.mono fun v a r => r.mono fun p hp => .tail _ (.tail _ (List.mem_append_right _ hp)))
    (List.forall_mem_cons.mpr ⟨hD, List.forall_mem_cons.mpr ⟨hU, List.forall_mem_append.mpr ⟨h9, h.off⟩⟩⟩)⟩
theorem LF.bad (h : LF W dx ca du i cvs dvs ds own) (hk : KW kind wd) (hp : ParIn own9 kind pv pd) (hi : IntsAre ivs (insOf W wd.toNat)) (hn : isSt kind = true → fitsD kind wd pd = true → nameOf pd = nameQ (2 + 7 * (i : Int))) (hf : ¬ fitsD kind wd pd = true)
    (h9 : ∀ q ∈ own9, q.1 ≠ dx ∧ q.1 ≠ ca ∧ q.1 ≠ du) (hU : U ≠ dx ∧ U ≠ ca ∧ U ≠ du) (hD : D ≠ dx ∧ D ≠ ca ∧ D ≠ du) (hT : T ≠ dx ∧ T ≠ ca ∧ T ≠ du) :
    ∃ ds', LF W dx ca du (i + 1) (cvs ++ [.ref D]) (dvs ++ [.ref T]) ds' ((T, tupO [.str (Str.ofString "wrong_param") t1, .int (2 + W + i) t2]) :: (D, tupO [.str kind kt, .int (2 + W + i) ot, .ref U, pv]) :: (U, tupO ivs) :: (own9 ++ own)) :=
  ⟨_, h.step hk hp hi hn (fun _ hp => .tail _ hp) (by rw [if_neg hf]; exact Rel2.snoc (h.due.mono fun v a r => r.mono fun p hp => .tail _ (.tail _ (.tail _ (List.mem_append_right _ hp)))) (FaultIn.mk T _ t1 t2 (.head _)))
    (List.forall_mem_cons.mpr ⟨hT, List.forall_mem_cons.mpr ⟨hD, List.forall_mem_cons.mpr ⟨hU, List.forall_mem_append.mpr ⟨h9, h.off⟩⟩⟩⟩)⟩
end
section
variable {h₀ h : Heap} {L : Addr} {nx own : List (Addr × Obj)}
/-- objects of unlike class stand apart -/
theorem tup_ne (N : News h₀ L h nx) (hs : ∀ p ∈ own, p ∈ nx) (ht : ∀ p ∈ own, ∃ vs, p.2 = tupO vs) {d : Addr} {o : Obj} (hd : (d, o) ∈ nx) (ho : o.cls ≠ .type "tuple") : ∀ q ∈ own, q.1 ≠ d := by
  intro q hq e
  have h1 := (N q (hs q hq)).1
  have h2 := (N _ hd).1
  rw [e, h2] at h1
  obtain ⟨vs, hv⟩ := ht q hq
  have e3 : o = q.2 := Option.some.inj h1
  exact ho (by rw [e3, hv])
theorem off_tups {it : List (Addr × Obj)} (N : News h₀ L h nx) (hs : ∀ p ∈ own, p ∈ nx) (ht : ∀ p ∈ own, ∃ vs, p.2 = tupO vs) (h2 : ∀ p ∈ it, p ∈ nx) (hc : ∀ p ∈ it, p.2.cls = .type "range_iterator") : OwnOff it (own.map (·.1)) := by
  intro p hp b hb e
  obtain ⟨q, hq, rfl⟩ := List.mem_map.mp hb
  exact tup_ne N hs ht (d := p.1) (o := p.2) (h2 p hp) (by rw [hc p hp]; decide) q hq e.symm
theorem off_cons {it : List (Addr × Obj)} {a : Addr} {l : List Addr} (h1 : ∀ p ∈ it, p.1 ≠ a) (h2 : OwnOff it l) : OwnOff it (a :: l) := by
  intro p hp b hb
  rcases List.mem_cons.mp hb with rfl | hb
  · exact h1 p hp
  · exact h2 p hp b hb
theorem off_app {it : List (Addr × Obj)} {l l' : List Addr} (h1 : OwnOff it l) (h2 : OwnOff it l') : OwnOff it (l ++ l') := by
  intro p hp b hb
  rcases List.mem_append.mp hb with hb | hb
  · exact h1 p hp b hb
  · exact h2 p hp b hb
end
section
variable {prog : Program} {w : World} {A : Around} {E : Value → Shared → Prop} {hp : Heap} {gn : Array GenState} {dr : Drawn} {st : Nat} {os : OsState} {h₀ : Heap} {L : Addr} {news : List (Addr × Obj)}
/-- nets[spot % len(nets)] -/
theorem netItem {value slice : Expr} {l : Addr} {vs : List Value} {n W i : Nat} {u : Tok} {Q : Value → Shared → Prop} (N : News h₀ L hp news) (hm : (l, listOf vs.toArray n) ∈ news) (hI : IntsAre vs (bitsOf W)) (hl : vs.length = W) (hW : 1 ≤ W) (hW2 : W ≤ 70)
    (h : ∀ t, Q (.int (2 + (i : Int) % (W : Int)) t) ⟨hp, gn, dr, st, os⟩)
    (hs : subscripted slice false (.ref l) (.int ((i : Int).fmod (vs.length : Int)) u) = operate [.ref l, .int ((i : Int).fmod (vs.length : Int)) u] (getItem (.ref l) (.int ((i : Int).fmod (vs.length : Int)) u)) := by with_unfolding_all rfl) :
    wpAny (model prog w) A (subscriptTail value slice (.ref l) (.int ((i : Int).fmod (vs.length : Int)) u)) Q E ⟨hp, gn, dr, st, os⟩ := by
  have e : (i : Int).fmod (vs.length : Int) = ((i % W : Nat) : Int) := by rw [hl, Int.fmod_eq_emod_of_nonneg _ (by omega)]; rfl
  have hlt : i % W < W := Nat.mod_lt _ hW
  refine itemL N hm (by rw [e]; omega) (by rw [e, hl]; omega) (by omega) (fun v hv => ?_) hs
  obtain ⟨b, t, rfl, hb⟩ := hI.at _ v hv
  rw [e, Int.toNat_natCast] at hb
  have : b = 2 + (i : Int) % (W : Int) := by
    unfold bitsOf at hb
    rw [List.getElem?_map] at hb
    obtain ⟨k, hk, rfl⟩ := Option.map_eq_some_iff.mp hb
    obtain ⟨h1, h2⟩ := List.getElem?_eq_some_iff.mp hk
    rw [List.getElem_range] at h2
    subst h2
    rfl
  subst this
  exact h t
end
theorem nameQ_inj (i j : Nat) (hi : i < 4) (hj : j < 4) (h : nameQ (2 + 7 * (i : Int)) = nameQ (2 + 7 * (j : Int))) : i = j := by
  have key : ∀ i ∈ List.range 4, ∀ j ∈ List.range 4, nameQ (2 + 7 * ((i : Nat) : Int)) = nameQ (2 + 7 * ((j : Nat) : Int)) → i = j := by decide +kernel
  exact key i (List.mem_range.mpr hi) j (List.mem_range.mpr hj) h

end
section
open PySem PySem.W PyProof.Rows
section
variable {h₀ h : Heap} {L : Addr} {nx own own9 ow G : List (Addr × Obj)} {x dx ca du ia oa U B D d c : Addr}
theorem pre_sub {α : Type} {p x y c u b d i o e f : α} (h : p ∈ x :: y :: c :: [u, b, d, i, o, e, f]) : p ∈ f :: x :: y :: c :: [u, b, d, i, o, e] :=
  (List.forall_mem_cons.mpr ⟨.tail _ (.head _), List.forall_mem_cons.mpr ⟨.tail _ (.tail _ (.head _)), List.forall_mem_cons.mpr ⟨.tail _ (.tail _ (.tail _ (.head _))), List.forall_mem_cons.mpr ⟨.tail _ (.tail _ (.tail _ (.tail _ (.head _)))), List.forall_mem_cons.mpr ⟨.tail _ (.tail _ (.tail _ (.tail _ (.tail _ (.head _))))), List.forall_mem_cons.mpr ⟨.tail _ (.tail _ (.tail _ (.tail _ (.tail _ (.tail _ (.head _)))))), List.forall_mem_cons.mpr ⟨.tail _ (.tail _ (.tail _ (.tail _ (.tail _ (.tail _ (.tail _ (.head _))))))), List.forall_mem_cons.mpr ⟨.tail _ (.tail _ (.tail _ (.tail _ (.tail _ (.tail _ (.tail _ (.tail _ (.head _)))))))), List.forall_mem_cons.mpr ⟨.tail _ (.tail _ (.tail _ (.tail _ (.tail _ (.tail _ (.tail _ (.tail _ (.tail _ (.head _))))))))), List.forall_mem_cons.mpr ⟨.head _, List.forall_mem_nil _⟩⟩⟩⟩⟩⟩⟩⟩⟩⟩) _ h
theorem cls_ne (N : News h₀ L h nx) {a b : Addr} {o1 o2 : Obj} (h1 : (a, o1) ∈ nx) (h2 : (b, o2) ∈ nx) (hne : o1.cls ≠ o2.cls) : a ≠ b := by
  rintro rfl
  have e1 := (N _ h1).1
  have e2 := (N _ h2).1
  rw [e1] at e2
  exact hne (congrArg Obj.cls (Option.some.inj e2))
def Apart (dx ca du : Addr) (l : List (Addr × Obj)) : Prop := ∀ q ∈ l, q.1 ≠ dx ∧ q.1 ≠ ca ∧ q.1 ≠ du
theorem Apart.cons {a : Addr} {o : Obj} {l : List (Addr × Obj)} (h1 : a ≠ dx ∧ a ≠ ca ∧ a ≠ du) (h2 : Apart dx ca du l) : Apart dx ca du ((a, o) :: l) := List.forall_mem_cons.mpr ⟨h1, h2⟩
theorem Apart.nil : Apart dx ca du [] := fun _ h => nomatch h
/-- what the law holds ahead of its loop: all but the netlist and its cells is one opaque part -/
theorem pre_facts {hs : Int × Int × Int × Int × Int} {ts : Tok × Tok × Tok × Tok × Tok × Tok} {tz : Tok} {k : Int} {ob A7 A8 A9 A3 o2 o3 o4 o5 : Obj} {us b1 b2 : List Value} {n4 n5 : Nat}
    (N : News h₀ L h ((c, ob) :: (x, instObj 141 dx) :: (dx, netO hs ts tz k ia oa ca) :: (ca, A3) :: [(U, tupO us), (B, listOf b1.toArray n5), (D, listOf b2.toArray n4), (ia, A7), (oa, A8), (d, A9)]))
    (h1 : ∀ q ∈ [(d, o4), (c, o5)], q.1 < dx) (h2 : dx < x) (h3 : x < ia) (h4 : ia < oa) (h5 : oa < ca) (h6 : ∀ q ∈ [(oa, o2), (ca, o3), (d, o4), (c, o5)], q.1 ≠ D ∧ q.1 ≠ B ∧ q.1 ≠ U) :
    ∃ G, News h₀ L h ((x, instObj 141 dx) :: (dx, netO hs ts tz k ia oa ca) :: (ca, A3) :: G) ∧ (∀ q ∈ G, q.1 ≠ dx ∧ q.1 ≠ ca) ∧ (U, tupO us) ∈ G ∧ (B, listOf b1.toArray n5) ∈ G ∧ (D, listOf b2.toArray n4) ∈ G ∧ (ia, A7) ∈ G ∧ (oa, A8) ∈ G ∧ (d, A9) ∈ G ∧ (c, ob) ∈ G ∧ x ≠ ca ∧ ca ≠ dx := by
  have hdx : (dx, netO hs ts tz k ia oa ca) ∈ ((c, ob) :: (x, instObj 141 dx) :: (dx, netO hs ts tz k ia oa ca) :: (ca, A3) :: [(U, tupO us), (B, listOf b1.toArray n5), (D, listOf b2.toArray n4), (ia, A7), (oa, A8), (d, A9)]) := .tail _ (.tail _ (.head _))
  have e1 : U ≠ dx := cls_ne N (.tail _ (.tail _ (.tail _ (.tail _ (.head _))))) hdx (by show Value.type "tuple" ≠ Value.type "dict"; decide)
  have e2 : B ≠ dx := cls_ne N (.tail _ (.tail _ (.tail _ (.tail _ (.tail _ (.head _)))))) hdx (by show Value.type "list" ≠ Value.type "dict"; decide)
  have e3 : D ≠ dx := cls_ne N (.tail _ (.tail _ (.tail _ (.tail _ (.tail _ (.tail _ (.head _))))))) hdx (by show Value.type "list" ≠ Value.type "dict"; decide)
  have m1 : d < dx := h1 _ (.head _)
  have m2 : c < dx := h1 _ (.tail _ (.head _))
  obtain ⟨n1, n2, n3⟩ := h6 (ca, o3) (.tail _ (.head _))
  have a1 := Nat.lt_trans h2 h3
  have a2 := Nat.lt_trans a1 h4
  have a3 := Nat.lt_trans h4 h5
  have a4 := Nat.lt_trans a2 h5
  refine ⟨[(U, tupO us), (B, listOf b1.toArray n5), (D, listOf b2.toArray n4), (ia, A7), (oa, A8), (d, A9), (c, ob)], fun p hp => N p (pre_sub hp), ?_, .head _, .tail _ (.head _), .tail _ (.tail _ (.head _)), .tail _ (.tail _ (.tail _ (.head _))), .tail _ (.tail _ (.tail _ (.tail _ (.head _)))), .tail _ (.tail _ (.tail _ (.tail _ (.tail _ (.head _))))), .tail _ (.tail _ (.tail _ (.tail _ (.tail _ (.tail _ (.head _)))))), Nat.ne_of_lt (Nat.lt_trans h3 a3), Nat.ne_of_gt a4⟩
  exact List.forall_mem_cons.mpr ⟨⟨e1, Ne.symm n3⟩, List.forall_mem_cons.mpr ⟨⟨e2, Ne.symm n2⟩, List.forall_mem_cons.mpr ⟨⟨e3, Ne.symm n1⟩, List.forall_mem_cons.mpr ⟨⟨Nat.ne_of_gt a1, Nat.ne_of_lt a3⟩, List.forall_mem_cons.mpr ⟨⟨Nat.ne_of_gt a2, Nat.ne_of_lt h5⟩, List.forall_mem_cons.mpr ⟨⟨Nat.ne_of_lt m1, Nat.ne_of_lt (Nat.lt_trans m1 a4)⟩, List.forall_mem_cons.mpr ⟨⟨Nat.ne_of_lt m2, Nat.ne_of_lt (Nat.lt_trans m2 a4)⟩, List.forall_mem_nil _⟩⟩⟩⟩⟩⟩⟩
theorem apart_du {o1 o2 o3 : Obj} (GA : ∀ q ∈ G, q.1 ≠ dx ∧ q.1 ≠ ca) (l : ∀ q ∈ (x, o1) :: (dx, o2) :: (ca, o3) :: G, q.1 < du) : Apart dx ca du G ∧ du ≠ dx ∧ du ≠ ca ∧ x ≠ du :=
  ⟨fun q hq => ⟨(GA q hq).1, (GA q hq).2, Nat.ne_of_lt (l q (.tail _ (.tail _ (.tail _ hq))))⟩, Nat.ne_of_gt (l _ (.tail _ (.head _))), Nat.ne_of_gt (l _ (.tail _ (.tail _ (.head _)))), Nat.ne_of_lt (l _ (.head _))⟩
theorem du_first {α : Type} {p x y c g : α} {R : List α} (h : p ∈ (x :: y :: c :: [g]) ++ R) : p ∈ g :: x :: y :: c :: R :=
  (List.forall_mem_cons.mpr ⟨.tail _ (.head _), List.forall_mem_cons.mpr ⟨.tail _ (.tail _ (.head _)), List.forall_mem_cons.mpr ⟨.tail _ (.tail _ (.tail _ (.head _))), List.forall_mem_cons.mpr ⟨.head _, fun q hq => .tail _ (.tail _ (.tail _ (.tail _ hq)))⟩⟩⟩⟩) _ h
theorem turn_facts {o1 o2 o3 o4 : Obj} (N : News h₀ L h (own9 ++ ((x, o1) :: (dx, o2) :: (ca, o3) :: (du, o4) :: (ow ++ (own ++ G))))) (ht : ∀ p ∈ own9, ∃ vs, p.2 = tupO vs) (c2 : o2.cls ≠ .type "tuple") (c3 : o3.cls ≠ .type "tuple") (c4 : o4.cls ≠ .type "tuple")
    (hoff : OwnOff own (((x, o1) :: (dx, o2) :: (ca, o3) :: (du, o4) :: (ow ++ G)).map (·.1))) (hcl : ∀ p ∈ own, p.2.cls = .type "range_iterator") (hw : Apart dx ca du ow) (hG : Apart dx ca du G) :
    Apart dx ca du own9 ∧ OwnOff own (own9.map (·.1)) ∧ ∃ R, News h₀ L h ((x, o1) :: (dx, o2) :: (ca, o3) :: (du, o4) :: R) ∧ Apart dx ca du R ∧ (∀ q ∈ own9, q ∈ R) ∧ (∀ q ∈ ow, q ∈ R) ∧ (∀ q ∈ own, q ∈ R) ∧ (∀ q ∈ G, q ∈ R) := by
  have m : ∀ {q : Addr × Obj}, q ∈ (x, o1) :: (dx, o2) :: (ca, o3) :: (du, o4) :: (ow ++ (own ++ G)) → q ∈ own9 ++ ((x, o1) :: (dx, o2) :: (ca, o3) :: (du, o4) :: (ow ++ (own ++ G))) := fun h => List.mem_append_right _ h
  have l9 : ∀ p ∈ own9, p ∈ own9 ++ ((x, o1) :: (dx, o2) :: (ca, o3) :: (du, o4) :: (ow ++ (own ++ G))) := fun p h => List.mem_append_left _ h
  have a1 : Apart dx ca du own9 := fun q hq => ⟨tup_ne N l9 ht (m (.tail _ (.head _))) c2 q hq, tup_ne N l9 ht (m (.tail _ (.tail _ (.head _)))) c3 q hq, tup_ne N l9 ht (m (.tail _ (.tail _ (.tail _ (.head _))))) c4 q hq⟩
  have a2 : Apart dx ca du own := fun q hq => ⟨hoff q hq _ (.tail _ (.head _)), hoff q hq _ (.tail _ (.tail _ (.head _))), hoff q hq _ (.tail _ (.tail _ (.tail _ (.head _))))⟩
  have a3 := off_tups N l9 ht (it := own) (fun p hp => m (.tail _ (.tail _ (.tail _ (.tail _ (List.mem_append_right _ (List.mem_append_left _ hp))))))) hcl
  refine ⟨a1, a3, own9 ++ (ow ++ (own ++ G)), fun p hp => N p ?_, fun q hq => ?_, fun q h => List.mem_append_left _ h, fun q h => List.mem_append_right _ (List.mem_append_left _ h), fun q h => List.mem_append_right _ (List.mem_append_right _ (List.mem_append_left _ h)), fun q h => List.mem_append_right _ (List.mem_append_right _ (List.mem_append_right _ h))⟩
  · simp only [List.mem_append, List.mem_cons] at hp ⊢
    rcases hp with h | h | h | h | h | h | h | h <;> simp [h]
  · simp only [List.mem_append] at hq
    rcases hq with h | h | h | h
    · exact a1 q h
    · exact hw q h
    · exact a2 q h
    · exact hG q h
/-- the end of a turn: what changes stands apart from the iterator -/
theorem end_off {l : List (Addr × Obj)} {o1 o2 o3 o4 p2 p3 p4 : Obj} {R : List (Addr × Obj)} (hoff : OwnOff own (((x, o1) :: (dx, o2) :: (ca, o3) :: (du, o4) :: (ow ++ G)).map (·.1))) (h9 : OwnOff own (own9.map (·.1))) (hR : ∀ q ∈ own, q ∈ R) (hl : ∀ q ∈ R, ∀ p ∈ l, q.1 < p.1) :
    OwnOff own (((x, o1) :: (dx, p2) :: (ca, p3) :: (du, p4) :: (l ++ (own9 ++ ow))).map (·.1)) := by
  intro p hp b hb
  rcases List.mem_cons.mp hb with rfl | hb
  · exact hoff p hp _ (.head _)
  rcases List.mem_cons.mp hb with rfl | hb
  · exact hoff p hp _ (.tail _ (.head _))
  rcases List.mem_cons.mp hb with rfl | hb
  · exact hoff p hp _ (.tail _ (.tail _ (.head _)))
  rcases List.mem_cons.mp hb with rfl | hb
  · exact hoff p hp _ (.tail _ (.tail _ (.tail _ (.head _))))
  obtain ⟨q, hq, rfl⟩ := List.mem_map.mp hb
  rcases List.mem_append.mp hq with hq | hq
  · exact Nat.ne_of_lt (hl p (hR p hp) q hq)
  rcases List.mem_append.mp hq with hq | hq
  · exact h9 p hp _ (List.mem_map_of_mem hq)
  · exact hoff p hp _ (.tail _ (.tail _ (.tail _ (.tail _ (List.mem_map_of_mem (List.mem_append_left _ hq))))))
theorem end_sub {p e1 e2 e3 e4 : Addr × Obj} {l R nx : List (Addr × Obj)} (h1 : e1 ∈ nx) (h2 : e2 ∈ nx) (h3 : e3 ∈ nx) (h4 : e4 ∈ nx) (hl : ∀ q ∈ l, q ∈ nx) (hR : ∀ q ∈ R, q ∈ nx) (h9 : ∀ q ∈ own9, q ∈ R) (hw : ∀ q ∈ ow, q ∈ R) (ho : ∀ q ∈ own, q ∈ R) (hG : ∀ q ∈ G, q ∈ R)
    (hp : p ∈ (e1 :: e2 :: e3 :: e4 :: (l ++ (own9 ++ ow))) ++ (own ++ G)) : p ∈ nx := by
  simp only [List.cons_append, List.mem_cons, List.mem_append] at hp
  rcases hp with rfl | rfl | rfl | rfl | (h | h | h) | h | h
  · exact h1
  · exact h2
  · exact h3
  · exact h4
  · exact hl _ h
  · exact hR _ (h9 _ h)
  · exact hR _ (hw _ h)
  · exact hR _ (ho _ h)
  · exact hR _ (hG _ h)
end

end
section
open PySem PySem.W PyProof.Rows
def bodyOf (o : Obj) : List Stmt := match o.data with | .func f => (match f.body with | .stmts b => b | _ => []) | _ => []
def scopeOf (o : Obj) : Scope := match o.data with | .func f => f.scope | _ => default
theorem f70a {b : Int} : 1 + b.fmod 70 = (((1 + b.fmod 70).toNat : Nat) : Int) := by
  have := fm0 (a := b) (b := 70) (by decide)
  omega
theorem f70b {b : Int} : (1 + b.fmod 70).toNat ≤ 70 := by
  have := fmlt (a := b) (b := 70) (by decide)
  omega
theorem mk_ne {x dx ia oa ca : Addr} {A B C : Obj} {news : List (Addr × Obj)} (h1 : ∀ q ∈ news, q.1 < dx) (h2 : dx < x) (h3 : x < ia) (h4 : ia < oa) (h5 : oa < ca) :
    (∀ q ∈ (ia, A) :: (oa, B) :: (ca, C) :: news, q.1 ≠ dx) ∧ x ≠ dx ∧ (∀ q ∈ (oa, B) :: (ca, C) :: news, q.1 ≠ ia) ∧ x ≠ ia ∧ dx ≠ ia := by
  have a1 := Nat.lt_trans h2 h3
  have a2 := Nat.lt_trans a1 h4
  have a3 := Nat.lt_trans h4 h5
  refine ⟨?_, Nat.ne_of_gt h2, ?_, Nat.ne_of_lt h3, Nat.ne_of_lt a1⟩
  · exact List.forall_mem_cons.mpr ⟨Nat.ne_of_gt a1, List.forall_mem_cons.mpr ⟨Nat.ne_of_gt a2, List.forall_mem_cons.mpr ⟨Nat.ne_of_gt (Nat.lt_trans a2 h5), fun q hq => Nat.ne_of_lt (h1 q hq)⟩⟩⟩
  · exact List.forall_mem_cons.mpr ⟨Nat.ne_of_gt h4, List.forall_mem_cons.mpr ⟨Nat.ne_of_gt a3, fun q hq => Nat.ne_of_lt (Nat.lt_trans (h1 q hq) a1)⟩⟩
theorem f70c {b : Int} : 1 ≤ (1 + b.fmod 70).toNat := by
  have := fm0 (a := b) (b := 70) (by decide)
  omega
theorem cel_sub {α : Type} {p u b d i x y o c e f : α} (h : p ∈ f :: x :: y :: c :: [u, b, d, i, o, e]) : p ∈ u :: b :: d :: i :: x :: y :: o :: c :: e :: [f] :=
  (List.forall_mem_cons.mpr ⟨.tail _ (.tail _ (.tail _ (.tail _ (.tail _ (.tail _ (.tail _ (.tail _ (.tail _ (.head _))))))))), List.forall_mem_cons.mpr ⟨.tail _ (.tail _ (.tail _ (.tail _ (.head _)))), List.forall_mem_cons.mpr ⟨.tail _ (.tail _ (.tail _ (.tail _ (.tail _ (.head _))))), List.forall_mem_cons.mpr ⟨.tail _ (.tail _ (.tail _ (.tail _ (.tail _ (.tail _ (.tail _ (.head _))))))), List.forall_mem_cons.mpr ⟨.head _, List.forall_mem_cons.mpr ⟨.tail _ (.head _), List.forall_mem_cons.mpr ⟨.tail _ (.tail _ (.head _)), List.forall_mem_cons.mpr ⟨.tail _ (.tail _ (.tail _ (.head _))), List.forall_mem_cons.mpr ⟨.tail _ (.tail _ (.tail _ (.tail _ (.tail _ (.tail _ (.head _)))))), List.forall_mem_cons.mpr ⟨.tail _ (.tail _ (.tail _ (.tail _ (.tail _ (.tail _ (.tail _ (.tail _ (.head _)))))))), List.forall_mem_nil _⟩⟩⟩⟩⟩⟩⟩⟩⟩⟩) _ h
theorem cel_ne {x dx ia oa ca U B D d L : Addr} {A1 A2 A3 A4 A5 A6 A7 A8 A9 o1 o2 o3 : Obj} (h0 : ∀ q ∈ [(L + 1, o1)], q.1 < d) (h1 : ∀ q ∈ [(d, A9), (L + 1, o1)], q.1 < dx) (h2 : dx < x) (h3 : x < ia) (h4 : ia < oa) (h5 : oa < ca) (h6 : ∀ q ∈ [(oa, o2), (ca, o3), (d, A9), (L + 1, o1)], q.1 ≠ D ∧ q.1 ≠ B ∧ q.1 ≠ U) :
    ∀ q ∈ [(x, A1), (dx, A2), (ca, A3), (U, A4), (B, A5), (D, A6), (ia, A7), (oa, A8), (d, A9)], q.1 ≠ L + 1 := by
  have a1 : L + 1 < d := h0 _ (.head _)
  have a2 : L + 1 < dx := h1 _ (.tail _ (.head _))
  obtain ⟨b1, b2, b3⟩ := h6 (L + 1, o1) (.tail _ (.tail _ (.tail _ (.head _))))
  have a3 := Nat.lt_trans a2 h2
  have a4 := Nat.lt_trans a3 h3
  have a5 := Nat.lt_trans a4 h4
  exact List.forall_mem_cons.mpr ⟨Nat.ne_of_gt a3, List.forall_mem_cons.mpr ⟨Nat.ne_of_gt a2, List.forall_mem_cons.mpr ⟨Nat.ne_of_gt (Nat.lt_trans a5 h5), List.forall_mem_cons.mpr ⟨Ne.symm b3, List.forall_mem_cons.mpr ⟨Ne.symm b2, List.forall_mem_cons.mpr ⟨Ne.symm b1, List.forall_mem_cons.mpr ⟨Nat.ne_of_gt a4, List.forall_mem_cons.mpr ⟨Nat.ne_of_gt a5, List.forall_mem_cons.mpr ⟨Nat.ne_of_gt a1, List.forall_mem_nil _⟩⟩⟩⟩⟩⟩⟩⟩⟩
def LI (W : Nat) (x dx ia oa ca du : Addr) (hs : Int × Int × Int × Int × Int) (ts : Tok × Tok × Tok × Tok × Tok × Tok) (i : Nat) (mu : List (Addr × Obj)) : Prop :=
  ∃ t0 n1 n2 cvs dvs ds own, mu = (x, instObj 141 dx) :: (dx, netO hs ts t0 (2 + W + i) ia oa ca) :: (ca, listOf cvs.toArray n1) :: (du, listOf dvs.toArray n2) :: own ∧ LF W dx ca du i cvs dvs ds own
theorem f4a {b : Int} : 1 + b.fmod 4 = (((1 + b.fmod 4).toNat : Nat) : Int) := by
  have := fm0 (a := b) (b := 4) (by decide)
  omega
theorem f4b {b : Int} : (1 + b.fmod 4).toNat ≤ 4 := by
  have := fmlt (a := b) (b := 4) (by decide)
  omega
theorem ksz {b : Int} (h : 0 ≤ b) : Builtin.Range.rangeSize 0 b 1 = ((b.toNat : Nat) : Int) := by
  have e : b = ((b.toNat : Nat) : Int) := (Int.toNat_of_nonneg h).symm
  have := rangeSize_nat 0 b.toNat
  rw [e, Int.toNat_natCast]
  simpa using this
theorem ac_pre {dx ca du x D : Addr} {o1 o2 o3 o4 o5 : Obj} {R : List (Addr × Obj)} (h : Apart dx ca du R) (off : ∀ p ∈ (x, o1) :: (dx, o2) :: (ca, o3) :: (du, o4) :: R, p.1 ≠ D) (h1 : du ≠ dx) (h2 : du ≠ ca) :
    (∀ q ∈ (D, o5) :: (du, o4) :: R, q.1 ≠ dx) ∧ (∀ q ∈ (D, o5) :: (du, o4) :: R, q.1 ≠ ca) :=
  ⟨List.forall_mem_cons.mpr ⟨Ne.symm (off _ (.tail _ (.head _))), List.forall_mem_cons.mpr ⟨h1, fun q hq => (h q hq).1⟩⟩, List.forall_mem_cons.mpr ⟨Ne.symm (off _ (.tail _ (.tail _ (.head _)))), List.forall_mem_cons.mpr ⟨h2, fun q hq => (h q hq).2.1⟩⟩⟩
theorem ac_ord {h₀ h : Heap} {L : Addr} {d x y c g : Addr × Obj} {R : List (Addr × Obj)} (N : News h₀ L h (d :: x :: y :: c :: g :: R)) : News h₀ L h (x :: y :: c :: d :: g :: R) := fun p hp => N p ((List.forall_mem_cons.mpr ⟨.tail _ (.head _), List.forall_mem_cons.mpr ⟨.tail _ (.tail _ (.head _)), List.forall_mem_cons.mpr ⟨.tail _ (.tail _ (.tail _ (.head _))), List.forall_mem_cons.mpr ⟨.head _, List.forall_mem_cons.mpr ⟨.tail _ (.tail _ (.tail _ (.tail _ (.head _)))), fun q hq => .tail _ (.tail _ (.tail _ (.tail _ (.tail _ (hq)))))⟩⟩⟩⟩⟩) _ hp)
theorem lt_trans3 {a b c d e : Addr} (h : a < b) (h1 : c < a) (h2 : d < a) (h3 : e < a) : b ≠ c ∧ b ≠ d ∧ b ≠ e := ⟨Nat.ne_of_gt (Nat.lt_trans h1 h), Nat.ne_of_gt (Nat.lt_trans h2 h), Nat.ne_of_gt (Nat.lt_trans h3 h)⟩
theorem du_sub {α : Type} {p g t c d u x y e : α} {R : List α} (h : p ∈ g :: t :: c :: d :: u :: x :: y :: e :: R) : p ∈ t :: c :: d :: u :: x :: y :: e :: g :: R :=
  (List.forall_mem_cons.mpr ⟨.tail _ (.tail _ (.tail _ (.tail _ (.tail _ (.tail _ (.tail _ (.head _))))))), List.forall_mem_cons.mpr ⟨.head _, List.forall_mem_cons.mpr ⟨.tail _ (.head _), List.forall_mem_cons.mpr ⟨.tail _ (.tail _ (.head _)), List.forall_mem_cons.mpr ⟨.tail _ (.tail _ (.tail _ (.head _))), List.forall_mem_cons.mpr ⟨.tail _ (.tail _ (.tail _ (.tail _ (.head _)))), List.forall_mem_cons.mpr ⟨.tail _ (.tail _ (.tail _ (.tail _ (.tail _ (.head _))))), List.forall_mem_cons.mpr ⟨.tail _ (.tail _ (.tail _ (.tail _ (.tail _ (.tail _ (.head _)))))), fun q hq => .tail _ (.tail _ (.tail _ (.tail _ (.tail _ (.tail _ (.tail _ (.tail _ (hq))))))))⟩⟩⟩⟩⟩⟩⟩⟩) _ h
theorem sp_lo {i : Nat} : (0 : Int) ≤ 2 + 7 * (i : Int) := by omega
theorem sp_hi {i n : Nat} (h : i < n) (hn : n ≤ 4) : (2 : Int) + 7 * (i : Int) < 25 := by omega
theorem done_led {h₀ h : Heap} {L : Addr} {a b c d : Addr × Obj} {ow G : List (Addr × Obj)} (N : News h₀ L h ((a :: b :: c :: d :: ow) ++ G)) : ∃ R, News h₀ L h (a :: b :: c :: d :: R) ∧ (∀ q ∈ ow, q ∈ R) ∧ ∀ q ∈ G, q ∈ R :=
  ⟨ow ++ G, N, fun _ h => List.mem_append_left _ h, fun _ h => List.mem_append_right _ h⟩
theorem bitsOf_at {n j : Nat} {b : Int} (h : (bitsOf n)[j]? = some b) : b = 2 + j := by
  unfold bitsOf at h
  rw [List.getElem?_map] at h
  obtain ⟨k, hk, rfl⟩ := Option.map_eq_some_iff.mp h
  obtain ⟨h1, h2⟩ := List.getElem?_eq_some_iff.mp hk
  rw [List.getElem_range] at h2
  rw [h2]
theorem done_net {x dx ia oa ca U B : Addr} {hs : Int × Int × Int × Int × Int} {ts : Tok × Tok × Tok × Tok × Tok × Tok} {tk ta : Tok} {count : Int} {cvs ys : List Value} {bits : List Int} {n1 n2 n3 nb : Nat} {du : Addr × Obj} {R : List (Addr × Obj)} (hy : IntsAre ys bits)
    (h1 : (U, tupO [.str (Str.ofString "a") ta, .ref B]) ∈ R) (h2 : (B, listOf ys.toArray nb) ∈ R) (h3 : (ia, listOf [Value.ref U].toArray n1) ∈ R) (h4 : (oa, listOf ([] : List Value).toArray n2) ∈ R) :
    NetIn ((x, instObj 141 dx) :: (dx, netO hs ts tk count ia oa ca) :: (ca, listOf cvs.toArray n3) :: du :: R) x count bits ca cvs :=
  .mk x dx ia oa ca U B _ _ _ _ _ _ _ _ _ _ _ _ _ n1 n2 n3 nb count bits ys cvs (.head _) (.tail _ (.head _)) (.tail _ (.tail _ (.tail _ (.tail _ h3)))) (.tail _ (.tail _ (.tail _ (.tail _ h4)))) (.tail _ (.tail _ (.head _))) (.tail _ (.tail _ (.tail _ (.tail _ h1)))) (.tail _ (.tail _ (.tail _ (.tail _ h2)))) hy
theorem fr_read {h₀ h : Heap} {L : Addr} {m : Str → Option Value} {x : Str} {v : Option Value} (F : Fr h₀ L h m) (e : m x = v) : Fr h₀ L h (fun y => if y = x then v else m y) := by
  have : (fun y => if y = x then v else m y) = m := by
    funext y
    by_cases h : y = x
    · rw [if_pos h, h, e]
    · rw [if_neg h]
  rw [this]
  exact F
theorem body_is {K : Frag} {a : Addr} {o o' : Obj} (h1 : K.lookup a = some o) (h2 : K.lookup a = some o') : bodyOf o = bodyOf o' ∧ scopeOf o = scopeOf o' := by
  rw [h1] at h2
  cases h2
  exact ⟨rfl, rfl⟩
section
variable {prog : Program} {w : World} {p : Program} {loose : List Str} {mean : ExcName → Option Value} {mg mb : Str → Option Value} {news : List (Addr × Obj)}
variable {A : Around} {hp : Heap} {gn : Array GenState} {dr : Drawn} {st : Nat} {os : OsState} {K : Frag} {L : Addr} {h₀ base : Heap} {m : Str → Option Value} {env : Env} {body : List Stmt} {Q : Flow → Shared → Prop} {E : Value → Shared → Prop}
/-- what the walk repeats bears a name -/
theorem shell (F : Fr h₀ L hp m) (hE : PassesOwn (model prog w) A env E) (h : let An := A; let en := env; let mm := m; let qq := Q; let ee := E; Fr h₀ L hp mm → PassesOwn (model prog w) An en ee → wpAny (model prog w) An (execs body en) qq ee ⟨hp, gn, dr, st, os⟩) : wpAny (model prog w) A (execs body env) Q E ⟨hp, gn, dr, st, os⟩ := h F hE
set_option maxRecDepth 100000 in
set_option maxHeartbeats 8000000 in
theorem law_walk {body : List Stmt} {scope : Scope} {oc dV kV doc pm cdv ct : Value} {od an : Option Addr} {qual : Str} {params : Arguments} {osl : Array (Option Value)} (hK : (hd.heap_39 w.params).lookup 248 = some ⟨oc, od, .func (fnOf "law" qual params body scope dV kV doc pm an cdv ct), osl⟩)
    (dp un : Nat) (gd : Option (List Code)) (a : Addr) (ccd : Value) (outer : List Env) (A₀ : Around) (base h₀ : Heap) (L : Addr) (m : Str → Option Value) (hp : Heap) (gn : Array GenState) (dr : Drawn) (st : Nat) (os : OsState) (Q : Flow → Shared → Prop) (E : Value → Shared → Prop) (l : Addr) (vs : List Value) (ns : List Int) (o : Obj)
    (B : Below A₀ base outer h₀) (F : Fr h₀ L hp m) (X : (hd.heap_39 w.params).In h₀) (N : News h₀ L hp [(L + 1, o)]) (ho : o.data = .cell none) (T : Top p loose mean mg mb h₀) (hlist : base.IsList l vs.toArray) (hi : IntsAre vs ns) (hl : ns.length ≤ 63) (hm : m (Str.ofString "script") = some (Value.ref l))
    (hdp : dp + 30 < recursionLimit) (hun : un + 300 < cLine) (hE : PassesOwn (model prog w) (ktrTop dp un gd "law" scope L a ccd [("nets", L + 1)] outer) (envX "law" scope L a ccd [("nets", L + 1)]) E) (hret : ∀ h' tk' m', Fr h₀ L h' m' → Q (.ret (.bool true)) ⟨h', gn, dr, tk', os⟩) :
    wpAny (model prog w) (ktrTop dp un gd "law" scope L a ccd [("nets", L + 1)] outer) (execs body (envX "law" scope L a ccd [("nets", L + 1)])) Q E ⟨hp, gn, dr, st, os⟩ := by
  w_top off; (have hfill : PySem.Challenge.rw_pq0453_01 = PySem.Challenge.rw_pq0453_01 ∧ hd.heap_39 = hd.heap_39 := (by k_fill; exact ⟨rfl, rfl⟩)); clear hfill
  obtain ⟨e1, e2⟩ := body_is hK (by k_is)
  dsimp only [bodyOf, scopeOf] at e1 e2
  subst e1
  subst e2
  clear hK
  refine shell (fr_read F hm) hE ?_
  intro An en mm qq ee F hpo
  clear hE
  k_with_none
  k_with "ite" => (k_closed; first | ((with_reducible refine ite_pos ?k1 ?_); (case k1 => decide)) | ((with_reducible refine ite_neg ?k1 ?_); (case k1 => decide)))
  k_with "storeName" => (refine Stop.out ?_)
  k_with "CompSrc" => (refine Stop.out ?_)
  k_with "call builtin:list.append" => (refine Stop.out ?_)
  k_with "CompEnd" => (refine Stop.out ?_)
  k_with "storeName" => (k_here; k_dflt (refine' storeL ?F ?N ?_ ?a ?b; (case F => k_asm); (case N => k_asm); (case a => rfl); (case b => rfl); k_whole; intro h' tk' mm' F' N'))
  k_with "call type:range" => (k_here; k_dflt (refine' rangeR ?F ?N ?_; (case F => k_asm); (case N => k_asm)); intro r9 h9 tk9 t9 u9 v9 R9 F9 N9)
  k_with "pyIter ref" => ((with_reducible show wpAny _ _ (pyIter (Value.ref _)) (fun it s₂ => LoopAtV _ _ _ _ _ _ _ _ _ it s₂) _ _); refine Stop.out ?_)
  k_with "exec For Name Call cons nil" => (k_here; (rename Fr _ _ _ _ => lF'); (with_unfolding_all refine' For_invVF lF' ?k1 ?k2 ?_; (case k1 => exact rfl); (case k2 => exact rfl); k_whole))
  k_with "newList" => (refine Stop.out ?_)
  k_with "subscriptTail" => (k_here; (with_reducible show wpAny _ _ (subscriptTail _ _ (Value.ref _) (Value.int _ _)) _ _ _); k_dflt (refine' itemI ?k1 ?k2 ?k3 ?k4 ?k5 ?k6 ?_; (case k1 => k_asm); (case k2 => k_mem); (case k3 => assumption); (case k4 => assumption); (case k5 => first | assumption | exact Int.add_nonneg (by assumption) (by decide) | omega); (case k6 => first | exact spot_hi (by assumption) (by decide) | exact spot_hi0 (by assumption) (by decide) | omega); k_whole); intro b9 t9 hb9 hb8)
  k_with "call ref" => (k_here; (with_reducible show wpAny _ _ (call (Value.ref 222) _) _ _ _); k_dflt ((refine' ConL.use (drops_con _ _ _ ?q1 ?q2) ?k1 ?k2 ?k3 ?k4 ?k5 ?kL ?kK ?kd ?ku ?_; (case k1 => k_asm); (case k2 => k_asm); (case k3 => k_asm); (case k4 => k_asm); (case k5 => k_asm); (case kK => first | exact rfl | assumption); (case kL => assumption); (case q1 => assumption); (case q2 => first | assumption | omega); (case kd => first | exact room1 hdp rfl | exact room0 hdp rfl | ktr_room); (case ku => first | exact room2 hun rfl | exact room3 hun rfl | ktr_units)); intro r9 nx9 h9 tk9 F9 N9 hP9; (refine hide fun P9 hX9 => ?_); (obtain ⟨d9, n9, dvs9, ds9, e9, e8, i9, dl9, db9, dlt9⟩ := hP9; subst e9; subst e8; have dd9 := And.intro dl9 db9; clear dl9 db9); (refine hX9 ?_); clear hX9; (try dsimp only); (try k_fold)))
  k_with "call ref" => (k_here; (with_reducible show wpAny _ _ (call (Value.ref 141) _) _ _ _); k_dflt ((refine' Con.use (mk_con _) ?k1 ?k2 ?k3 ?k4 ?k5 ?kK ?kd ?ku ?_; (case k1 => k_asm); (case k2 => k_asm); (case k3 => k_asm); (case k4 => k_asm); (case k5 => k_asm); (case kK => first | exact rfl | assumption); (case kd => first | exact room1 hdp rfl | exact room0 hdp rfl | ktr_room); (case ku => first | exact room2 hun rfl | exact room3 hun rfl | ktr_units)); intro r9 nx9 h9 tk9 F9 N9 hP9; (refine hide fun P9 hX9 => ?_); (obtain ⟨x9, dx9, ia9, oa9, ca9, hs9, ts9, t9, n1, n2, n3, e9, e8, o1, o2, o3, o4, o5⟩ := hP9; subst e9; subst e8); (refine hX9 ?_); clear hX9; refine Stop.out ?_; (try dsimp only); (try k_fold)))
  k_with "call ref" => (k_here; (with_reducible show wpAny _ _ (call (Value.ref 101) _) _ _ _); k_dflt ((refine' Con.use (ai_con _ _ _ _ _ _ _ _ _ _ _ _ _ _ ?q1 ?q2 ?q3 ?q4 ?q5 ?q6 ?q7) ?k1 ?k2 ?k3 ?k4 ?k5 ?kK ?kd ?ku ?_; (case k1 => k_asm); (case k2 => k_asm); (case k3 => k_asm); (case k4 => k_asm); (case k5 => k_asm); (case kK => first | exact rfl | assumption); (case q1 => exact f70a); (case q2 => exact f70b); (case q3 => assumption); (case q4 => assumption); (case q5 => assumption); (case q6 => assumption); (case q7 => assumption); (case kd => first | exact room1 hdp rfl | exact room0 hdp rfl | ktr_room); (case ku => first | exact room2 hun rfl | exact room3 hun rfl | ktr_units)); intro r9 nx9 h9 tk9 F9 N9 hP9; (refine hide fun P9 hX9 => ?_); (obtain ⟨D9, B9, U9, ys9, tz9, ta9, n4, n5, n6, e9, e8, hy9, hyl9, od9⟩ := hP9; subst e9; subst e8); (refine hX9 ?_); clear hX9; (try dsimp only); (try k_fold)))
  k_with "subscriptTail" => (k_here; (with_reducible show wpAny _ _ (subscriptTail _ _ (Value.ref _) (Value.int (Int.fmod _ (Nat.cast _)) _)) _ _ _); k_dflt (refine' netItem ?k1 ?k2 ?k3 ?k4 ?k5 ?k6 ?_; (case k1 => k_asm); (case k2 => k_mem); (case k3 => assumption); (case k4 => assumption); (case k5 => assumption); (case k6 => assumption); k_whole); intro t9)
  k_with "call builtin:len" => (k_here; (with_reducible show wpAny _ _ (call (Value.builtin "len") [Value.ref _]) _ _ _); k_dflt (refine' lenL ?k1 ?k2 ?k3 ?k4 ?_; (case k1 => k_asm); (case k2 => k_mem); (case k3 => first | assumption | exact rfl); (case k4 => first | exact big2 (by assumption) (by assumption) (by decide) | exact big1 (by assumption) (by decide) | decide | omega); intro tk' tk''))
  k_with "call ref" => (k_here; (with_reducible show wpAny _ _ (call (Value.ref 116) _) _ _ _); k_dflt ((refine' Con.use (ac_con _ _ _ _ _ _ _ _ _ _ _ _ _ _ _ _ _ _ ?q1 ?q2 ?q3 ?q4 ?q5 ?q6 ?q7 ?q8) ?k1 ?k2 ?k3 ?k4 ?k5 ?kK ?kd ?ku ?_; (case k1 => k_asm); (case k2 => k_asm); (case k3 => k_asm); (case k4 => k_asm); (case k5 => k_asm); (case kK => first | exact rfl | assumption); (case q1 => exact .head _); (case q2 => assumption); (case q3 => assumption); (case q4 => assumption); (case q5 => assumption); (case q6 => assumption); (case q7 => assumption); (case q8 => exact Nat.le_trans (Nat.le_of_eq (by assumption)) (size_w hw1)); (case kd => first | exact room1 hdp rfl | exact room0 hdp rfl | ktr_room); (case ku => first | exact room2 hun rfl | exact room3 hun rfl | ktr_units)); intro r9 nx9 h9 tk9 F9 N9 hP9; (refine hide fun P9 hX9 => ?_); (obtain ⟨D1, U1, t9, n9, kt9, ot9, rt9, e9, e8, j1, j2, j3, j4⟩ := hP9; subst e9; subst e8); (refine hX9 ?_); clear hX9; (try dsimp only); (try k_fold)))
  k_with "call type:list" => (k_here; (with_reducible show wpAny _ _ (call (Value.type "list") [Value.ref _]) _ _ _); k_dflt (refine' listCopy ?k1 ?k2 ?k3 ?k4 ?_; (case k1 => k_asm); (case k2 => k_asm); (case k3 => k_mem); (case k4 => first | exact Nat.le_trans (by assumption) (by decide) | omega)); intro B9 c9 h9 F9 N9 l9)
  k_with "call ref" => (k_here; (with_reducible show wpAny _ _ (call (Value.ref 215) _) _ _ _); k_dflt ((refine' Con.use (ck_con _ ca9 (2 + W + n) (W : Int) (bitsOf W) cvs ds (fun i => nameQ (2 + 7 * (i : Int))) ?q1 ?q2 hdl hLF.ok ?q3 ?q4 ?q5 ?q6 hLF.out hcount hLF.nam ?q7) ?k1 ?k2 ?k3 ?k4 ?k5 ?kK ?kd ?ku ?_; (case k1 => k_asm); (case k2 => k_asm); (case k3 => k_asm); (case k4 => k_asm); (case k5 => k_asm); (case kK => first | exact rfl | assumption); (case q1 => exact NetIn.mono hn (by intro p9 hp9; k_mem)); (case q2 => exact Rel2.mono hc fun v a r => CellIn.mono r (by intro p9 hp9; k_mem)); (case q3 => exact congrArg Nat.cast (bitsOf_len W)); (case q4 => exact Int.ofNat_le.mpr hW1); (case q5 => exact Int.ofNat_le.mpr hW2); (case q6 => exact fun j b h => bitsOf_at h); (case q7 => exact nameQ_inj); (case kd => first | exact room1 hdp rfl | exact room0 hdp rfl | ktr_room); (case ku => first | exact room2 hun rfl | exact room3 hun rfl | ktr_units)); intro r9 nx9 h9 tk9 F9 N9 hP9; (refine hide fun P9 hX9 => ?_); (obtain ⟨ra, fvs, n9, own9, e9, e8, hF9⟩ := hP9; subst e9; subst e8); (refine hX9 ?_); clear hX9; (try dsimp only); (try k_fold)))
  k_with "compareOp Eq ref ref" => (refine Stop.out ?_)
  k_with "call ref" => (k_here; (with_reducible show wpAny _ _ (call (Value.ref 243) _) _ _ _); k_dflt ((refine' Con.use (lcell_con _ _ _ _ _ _ ?q1 ?q2 ?q3 ?q4 ?q5) ?k1 ?k2 ?k3 ?k4 ?k5 ?kK ?kd ?ku ?_; (case k1 => k_asm); (case k2 => k_asm); (case k3 => k_asm); (case k4 => k_asm); (case k5 => k_asm); (case kK => first | exact rfl | assumption); (case q1 => k_mem); (case q2 => assumption); (case q3 => assumption); (case q4 => exact sp_lo); (case q5 => exact sp_hi (by assumption) (by assumption)); (case kd => first | exact room1 hdp rfl | exact room0 hdp rfl | ktr_room); (case ku => first | exact room2 hun rfl | exact room3 hun rfl | ktr_units)); intro r9 nx9 h9 tk9 F9 N9 hP9; (refine hide fun P9 hX9 => ?_); (obtain ⟨own9, a9, kd9, wd9, pv9, pd9, kt9, wt9, e9, e8, hm9, hp9, hk9, hn9, ht9⟩ := hP9; subst e9; subst e8); (refine hX9 ?_); clear hX9; refine Stop.out ?_; (try dsimp only); (try k_fold)))
  (try k_fold)
  k_steps
  refine Stop.mk ?_
  obtain ⟨p1, p2, p3, p4, p5⟩ := mk_ne (A := listOf ([] : List Value).toArray n1) (B := listOf ([] : List Value).toArray n2) (C := listOf ([] : List Value).toArray n3) o1 o2 o3 o4 o5
  k_steps
  refine Stop.mk ?_
  have hW := f70a (b := ds9.getD (Int.toNat 0) 0)
  have hW2 := f70b (b := ds9.getD (Int.toNat 0) 0)
  have hW1 := f70c (b := ds9.getD (Int.toNat 0) 0)
  generalize (1 + Int.fmod (ds9.getD (Int.toNat 0) 0) 70).toNat = W at *
  clear N' F' hW
  have hcn : ∀ q ∈ [(x9, instObj 141 dx9), (dx9, netO hs9 ts9 tz9 (2 + W) ia9 oa9 ca9), (ca9, listOf ([] : List Value).toArray n3), (U9, tupO [.str (Str.ofString "a") ta9, .ref B9]), (B9, listOf ys9.toArray n5), (D9, listOf ys9.toArray n4), (ia9, listOf [Value.ref U9].toArray n6), (oa9, listOf ([] : List Value).toArray n2), (d9, listOf dvs9.toArray n9)], q.1 ≠ L + 1 := cel_ne dlt9 o1 o2 o3 o4 o5 od9
  refine storeX_C F9 (fun p hp => N9 p (cel_sub hp)) rfl (UpdF.head hcn) ho (fun hb ob Fb Nb db => ?_) rfl rfl
  obtain ⟨G9, Nc, GA, mU, mB, mD, mi, mo, md, mc, g1, g2⟩ := pre_facts Nb o1 o2 o3 o4 o5 od9
  clear N9 F9 Nb o1 o2 o3 o4 o5 od9 p1 p3 p4 p5 dlt9 hcn
  dsimp only
  k_steps
  refine Stop.mk ?_
  (refine' newList_K ?F ?N ?_; (case F => k_asm); (case N => k_asm))
  intro du h1 F1 N1 ldu
  obtain ⟨hG, g3, g4, g5⟩ := apart_du GA ldu
  clear ldu Fb Nc
  k_steps
  rename IsRange _ _ _ _ _ _ _ _ => R8
  rename News _ _ _ _ => N8
  rename Fr _ _ _ _ => F8
  refine Stop.mk ?_
  have hz := f4b (b := b9)
  have hz1 := f4a (b := b9)
  generalize (1 + Int.fmod b9 4).toNat = n at hz hz1
  have N9 : News _ _ _ (((x9, instObj 141 dx9) :: (dx9, netO hs9 ts9 tz9 (2 + W) ia9 oa9 ca9) :: (ca9, listOf ([] : List Value).toArray n3) :: [(du, listOf ([] : List Value).toArray 0)]) ++ G9) := fun p hp => N8 p (du_first hp)
  refine loopRC (G := G9) [(Str.ofString "kind"), Str.ofString "wide", Str.ofString "param", Str.ofString "good", Str.ofString "out"] (LI W x9 dx9 ia9 oa9 ca9 du hs9 ts9) rfl R8 hz1 (Nat.le_trans hz (by decide)) F8 N9 ⟨tz9, n3, 0, [], [], [], [], by simp, LF.nil⟩ ?_ ?_
  · clear N8 F8 R8 N' lF' N1 F1 hret N9 hz1
    rintro i t u mu h tk own hi hoff hcl hI9 F2 N2
    refine genT fun QQ hQQ => ?_
    obtain ⟨t0, n7, n8, cvs, dvs, ds, ow, rfl, hLF⟩ := hI9
    simp only [List.cons_append, List.nil_append] at N2 hoff
    (try dsimp only)
    (try k_fold)
    k_steps
    refine Stop.mk ?_
    obtain ⟨y1, y2, R, N8, y3, rk, rw, ro, rG⟩ := turn_facts N9 ht9 (by show Value.type "dict" ≠ Value.type "tuple"; decide) (by show Value.type "list" ≠ Value.type "tuple"; decide) (by show Value.type "list" ≠ Value.type "tuple"; decide) hoff hcl hLF.off hG
    have b1 := rk _ hm9
    have b2 := rG _ mD
    have b3 := rG _ mc
    have hw0 := hk9.1
    have hw1 := hk9.2.1
    clear N9 N2 F2 hm9 ht9 hcl
    k_steps
    refine Stop.mk ?_
    obtain ⟨hcl, hdl, -⟩ := hLF.lens (Nat.le_of_lt (Nat.lt_of_lt_of_le hi hz))
    refine LCg.CompSrc.range (n := wd9.toNat) rfl F9 N9 R9 (small_w hw0 hw1) (ksz hw0) (size_n (size_w hw1)) ?_
    intro g2
    refine compN x9 (fun _ o => o = instObj 141 dx9) _ (fun i => 2 + (i : Int) % (W : Int)) (instObj 141 dx9) rfl (fun p hp => hp) ?_ ?_
    · clear N9 F9 R9 N' F'
      rintro i2 t2 I oI C oC D m₂ ys h2 tk2 E' o hin rfl hC hx F3 N3 off ne
      k_steps
      refine Stop.mk ?_
      exact LCg.CompEnd.intro F3 N3 _ (fun _ h => h) off trivial ⟨_, rfl, rfl, _, rfl⟩
    · clear N9 F9 R9 N' F'
      rintro ys D h2 tk2 o rfl hy F3 N3 off
      have hyl : ys.length = wd9.toNat := by rw [hy.length, List.length_map, List.length_range]
      obtain ⟨y4, y5⟩ := ac_pre (o5 := listOf ys.toArray ys.length) y3 off g3 g4
      have N4 := ac_ord N3
      dsimp only
      have ew : (2 : Int) + W + ((i + 1 : Nat) : Int) = 2 + W + i + 1 := cnt1
      k_steps
      · rename fitsD kd9 wd9 pd9 = true => hfit
        have v1 : U1 ≠ dx9 ∧ U1 ≠ ca9 ∧ U1 ≠ du := ⟨Nat.ne_of_gt j2, Nat.ne_of_gt j3, Nat.ne_of_gt (j1 _ (.tail _ (.head _)))⟩
        have v2 := lt_trans3 j4 j2 j3 (j1 _ (.tail _ (.head _)))
        obtain ⟨ds', hL'⟩ := hLF.good (kt := kt9) (ot := ot9) hk9 hp9 hy hn9 hfit y1 v1 v2
        refine TE.to hQQ ((x9, instObj 141 dx9) :: (dx9, netO hs9 ts9 t9 (2 + W + i + 1) ia9 oa9 ca9) :: (ca9, listOf (cvs ++ [Value.ref D1]).toArray n9) :: (du, listOf dvs.toArray n8) :: ([(D1, tupO [.str kd9 kt9, .int (2 + W + i) ot9, .ref U1, pv9]), (U1, tupO ys)] ++ (own9 ++ ow))) F'
          (fun p hp => N' p (end_sub (.tail _ (.tail _ (.tail _ (.head _)))) (.tail _ (.tail _ (.tail _ (.tail _ (.head _))))) (.head _) (.tail _ (.tail _ (.tail _ (.tail _ (.tail _ (.tail _ (.head _))))))) (List.forall_mem_cons.mpr ⟨.tail _ (.head _), List.forall_mem_cons.mpr ⟨.tail _ (.tail _ (.head _)), List.forall_mem_nil _⟩⟩) (fun q hq => .tail _ (.tail _ (.tail _ (.tail _ (.tail _ (.tail _ (.tail _ hq))))))) rk rw ro rG hp))
          (end_off hoff y2 ro (fun q hq => List.forall_mem_cons.mpr ⟨Nat.lt_trans (j1 q (.tail _ (.tail _ hq))) j4, List.forall_mem_cons.mpr ⟨j1 q (.tail _ (.tail _ hq)), List.forall_mem_nil _⟩⟩)) ⟨t9, n9, n8, _, _, _, _, by rw [ew]; rfl, hL'⟩ (fr_step (by decide) (fr_step (by decide) (fr_step (by decide) (fr_step (by decide) (fr_step (by decide) fr_base)))))
      · rename_i hbad T1 h8 F8 N8 lT
        have v1 : U1 ≠ dx9 ∧ U1 ≠ ca9 ∧ U1 ≠ du := ⟨Nat.ne_of_gt j2, Nat.ne_of_gt j3, Nat.ne_of_gt (j1 _ (.tail _ (.head _)))⟩
        have v2 := lt_trans3 j4 j2 j3 (j1 _ (.tail _ (.head _)))
        have v3 : T1 ≠ dx9 ∧ T1 ≠ ca9 ∧ T1 ≠ du := ⟨Nat.ne_of_gt lT.2.2.2.2.1, Nat.ne_of_gt lT.1, Nat.ne_of_gt lT.2.2.2.2.2.2.1⟩
        refine Stop.mk ?_
        refine append_mu (vs := dvs) (n := n8) (rest := (T1, tupO [.str (Str.ofString "wrong_param") _, .int (2 + W + i) _]) :: (ca9, listOf (cvs ++ [Value.ref D1]).toArray n9) :: (D1, tupO [.str kd9 kt9, .int (2 + W + i) ot9, .ref U1, pv9]) :: (U1, tupO ys) :: (x9, instObj 141 dx9) :: (dx9, netO hs9 ts9 t9 (2 + W + i + 1) ia9 oa9 ca9) :: (D, listOf ys.toArray ys.length) :: R) F8 N8 (fun p hp => du_sub hp) ?_ (Nat.le_trans hdl (by decide)) ?_
        · exact List.forall_mem_cons.mpr ⟨v3.2.2, List.forall_mem_cons.mpr ⟨Ne.symm g4, List.forall_mem_cons.mpr ⟨v2.2.2, List.forall_mem_cons.mpr ⟨v1.2.2, List.forall_mem_cons.mpr ⟨g5, List.forall_mem_cons.mpr ⟨Ne.symm g3, List.forall_mem_cons.mpr ⟨Ne.symm (off _ (.tail _ (.tail _ (.tail _ (.head _))))), fun q hq => (y3 q hq).2.2⟩⟩⟩⟩⟩⟩⟩
        · intro h7 F7 N7
          obtain ⟨ds', hL'⟩ := hLF.bad (kt := kt9) (ot := ot9) hk9 hp9 hy hn9 (by rw [hbad]; decide) y1 v1 v2 v3
          k_steps
          exact TE.to hQQ ((x9, instObj 141 dx9) :: (dx9, netO hs9 ts9 t9 (2 + W + i + 1) ia9 oa9 ca9) :: (ca9, listOf (cvs ++ [Value.ref D1]).toArray n9) :: (du, listOf (dvs ++ [Value.ref T1]).toArray (n8 + 1)) :: ([(T1, tupO [.str (Str.ofString "wrong_param") _, .int (2 + W + i) _]), (D1, tupO [.str kd9 kt9, .int (2 + W + i) ot9, .ref U1, pv9]), (U1, tupO ys)] ++ (own9 ++ ow))) F7
            (fun p hp => N7 p (end_sub (.tail _ (.tail _ (.tail _ (.tail _ (.tail _ (.head _)))))) (.tail _ (.tail _ (.tail _ (.tail _ (.tail _ (.tail _ (.head _))))))) (.tail _ (.tail _ (.head _))) (.head _) (List.forall_mem_cons.mpr ⟨.tail _ (.head _), List.forall_mem_cons.mpr ⟨.tail _ (.tail _ (.tail _ (.head _))), List.forall_mem_cons.mpr ⟨.tail _ (.tail _ (.tail _ (.tail _ (.head _)))), List.forall_mem_nil _⟩⟩⟩) (fun q hq => .tail _ (.tail _ (.tail _ (.tail _ (.tail _ (.tail _ (.tail _ (.tail _ hq)))))))) rk rw ro rG hp))
            (end_off hoff y2 ro (fun q hq => List.forall_mem_cons.mpr ⟨ktn_ltOf lT.2.2.2.2.2.2.2 q hq, List.forall_mem_cons.mpr ⟨Nat.lt_trans (j1 q (.tail _ (.tail _ hq))) j4, List.forall_mem_cons.mpr ⟨j1 q (.tail _ (.tail _ hq)), List.forall_mem_nil _⟩⟩⟩)) ⟨t9, n9, n8 + 1, _, _, _, _, by rw [ew]; rfl, hL'⟩ (fr_step (by decide) (fr_step (by decide) (fr_step (by decide) (fr_step (by decide) (fr_step (by decide) fr_base)))))
  · clear N8 F8 R8 N' lF' N1 F1 N9 hz1
    rintro u mu h tk hI9 F2 N2
    refine hide fun P9 hX9 => ?_
    obtain ⟨t0, n7, n8, cvs, dvs, ds, ow, rfl, hLF⟩ := hI9
    refine hX9 ?_
    clear hX9
    obtain ⟨R, N3, rw, rG⟩ := done_led N2
    obtain ⟨hcl, -, hdl⟩ := hLF.lens hz
    have hc := hLF.cells.mono fun v a r => r.mono rw
    have hd := hLF.due.mono fun v a r => r.mono rw
    have hn := done_net (n3 := n7) (du := (du, listOf dvs.toArray n8)) (n1 := n6) (n2 := n2) (nb := n5) (tk := t0) (hs := hs9) (ts := ts9) (x := x9) (dx := dx9) (ca := ca9) (count := 2 + W + n) (cvs := cvs) (ta := ta9) hy9 (rG _ mU) (rG _ mB) (rG _ mi) (rG _ mo)
    have hcount : (2 : Int) + W + n = 2 + W + ds.length := by rw [hLF.len]
    clear N2
    dsimp only
    k_steps
    refine Stop.mk ?_
    have m1 : ∀ q ∈ (x9, instObj 141 dx9) :: (dx9, netO hs9 ts9 t0 (2 + W + n) ia9 oa9 ca9) :: (ca9, listOf cvs.toArray n7) :: (du, listOf dvs.toArray n8) :: R, q ∈ (ra, listOf fvs.toArray n9) :: (own9 ++ (B9, listOf cvs.toArray c9) :: (x9, instObj 141 dx9) :: (dx9, netO hs9 ts9 t0 (2 + W + n) ia9 oa9 ca9) :: (ca9, listOf cvs.toArray n7) :: (du, listOf dvs.toArray n8) :: R) := fun q hq => .tail _ (List.mem_append_right _ (.tail _ hq))
    refine eqDue N9 (.head _) (m1 _ (.tail _ (.tail _ (.tail _ (.head _))))) hF9 (hd.mono fun v a r => r.mono fun p hp => m1 p (.tail _ (.tail _ (.tail _ (.tail _ hp))))) (room0 hun (by decide)) ?_
    have c1 := m1 _ (.tail _ (.tail _ (.head _)))
    have c2 := List.mem_cons_of_mem (ra, listOf fvs.toArray n9) (List.mem_append_right own9 (List.mem_cons_self (a := (B9, listOf cvs.toArray c9)) (l := (x9, instObj 141 dx9) :: (dx9, netO hs9 ts9 t0 (2 + W + n) ia9 oa9 ca9) :: (ca9, listOf cvs.toArray n7) :: (du, listOf dvs.toArray n8) :: R)))
    have c3 := m1 _ (.head _)
    have c4 := m1 _ (.tail _ (.head _))
    clear hF9 hc hd hn
    k_steps
    refine Stop.mk ?_
    refine eqKept N9 c1 c2 (room0 hun (by decide)) ?_
    k_steps
    exact hret _ _ _ (by assumption)
end

end
section
open PySem PySem.W PyProof.Rows
theorem lk_mem {a : Addr} {o : Obj} : ∀ {K : Frag}, K.lookup a = some o → (a, o) ∈ K
  | [], h => nomatch h
  | (b, c) :: r, h => by
    unfold List.lookup at h
    split at h
    · rename_i e
      cases h
      rw [eq_of_beq e]; exact .head _
    · exact .tail _ (lk_mem h)
theorem sub_in {K K' : Frag} (e : K.map (fun p => K'.lookup p.1) = K.map (fun p => some p.2)) {h : Heap} (X : K'.In h) : K.In h := by
  intro a o q
  have := List.map_inj_left.mp e (a, o) (lk_mem q)
  exact X a o this
-- These names keep the head from laying its twins of the heap's and the trees' constants (their lemmas alone took 9 MB of the compiled file); nothing else leans on them.
def pw.tw16556489855885905428 : Unit := ()
def pw.tw15698259289093717381 : Unit := ()
def pw.tw12084959230666469639 : Unit := ()
def pw.tw13487849843756076195 : Unit := ()
set_option Elab.async true in
set_option maxRecDepth 100000 in
set_option maxHeartbeats 8000000 in
theorem pw : PySem.Challenge.rw_pq0453_01.Holds := by
  w_on; o_law; z_head
  case hw => w_witness2
  k_fill
  intro w s₀ s₁ mg mb G y fa o pm cd doc dV kV ho hd' hcd hD hmg hg args vals as L hpre hlay hrd hwl hlo
  z_open y L KX ZH ZN ZT
  have KY : Frag.In (hd.heap_39 w.params) s₁.heap := sub_in (by kernel_rfl) KX
  clear KX ZH ZN ZT
  k_behind G ho hd' hcd hD hmg hpre hlay hrd hwl hlo cd
  refine' law_walk (by k_is) _ _ _ _ _ _ _ _ _ _ _ _ _ _ _ _ _ _ _ _ _ _ ?qB ?qF ?qX ?qN ?qo ?qT ?ql ?qi ?qn ?qm ?qd ?qu ?qE ?qR
  case qB => k_asm
  case qF => k_asm
  case qX => k_asm
  case qN => k_asm
  case qo => k_asm
  case qT => k_asm
  case ql => assumption
  case qi => assumption
  case qn => omega
  case qm => exact rfl
  case qd => decide
  case qu => decide
  case qE => passes_own
  case qR =>
    intro h' tk' m' F'
    dsimp only
    k_steps
    all_goals w_report

end
end Mine
set_option maxRecDepth 100000 in
set_option maxHeartbeats 8000000 in
theorem PySem.Challenge.cw_pq0453_01_holds : PySem.Challenge.rw_pq0453_01.Holds :=
  Mine.pw
