import PyProof.Rows.All
import Wide.All
import OpenK.AllK
import Wide.FinOn
import Lean
import PySem.Challenge.RW_nu0121_01
open PySem PySem.W PyProof.Rows
set_option Elab.async false
namespace Mine
set_option maxRecDepth 100000 in
set_option maxHeartbeats 8000000 in
open_top hd for PySem.Challenge.rw_nu0121_01
section -- A1
abbrev Led := List (Addr × Obj)
abbrev tup (vs : List Value) : Obj := { cls := .type "tuple", data := .seq vs.toArray }

/-- what a call of a def hands back, from any frame, with any ledger -/
def Cut (k : Nat) (f : Addr) (vs : List Value) (news : Led) (Post : Value → Led → Prop) : Prop :=
  ∀ (w : World) (mean : ExcName → Option Value) (mg mb : Str → Option Value) (dp un : Nat) (gd : Option (List Code)) (cn : Str) (cs : Scope) (a : Addr) (ccd : Value) (cl : List (Str × Addr)) (outer : List Env) (A₀ : Around) (base h₀ : Heap) (L : Addr) (m : Str → Option Value) (s : Shared) (Q E : Value → Shared → Prop),
    Below A₀ base outer h₀ → Fr h₀ L s.heap m → (hd.heap_39 w.params).In h₀ → News h₀ L s.heap news → Top hd.view_39 (looseW hd.view_39 []) mean mg mb h₀ → cs.kind = .function → dp + k < recursionLimit → un + 100 + 100 * k < cLine →
    (∀ (r : Value) (news' : Led) (h' : Heap) (tk' : Nat), Fr h₀ L h' m → News h₀ L h' news' → Post r news' → Q r { s with heap := h', toks := tk' }) →
    wpAny (model PySem.Challenge.rw_nu0121_01.row.prog w) (ktrTop dp un gd cn cs L a ccd cl outer) (call (.ref f) vs) Q E s

theorem Cut.use {k : Nat} {f : Addr} {vs : List Value} {news : Led} {Post : Value → Led → Prop} (C : Cut k f vs news Post)
    {w : World} {mean : ExcName → Option Value} {mg mb : Str → Option Value} {dp un : Nat} {gd : Option (List Code)} {cn : Str} {cs : Scope} {a : Addr} {ccd : Value} {cl : List (Str × Addr)} {outer : List Env} {A₀ : Around} {base h₀ : Heap} {L : Addr} {m : Str → Option Value} {s : Shared} {Q E : Value → Shared → Prop}
    (B : Below A₀ base outer h₀) (F : Fr h₀ L s.heap m) (X : (hd.heap_39 w.params).In h₀) (N : News h₀ L s.heap news) (T : Top hd.view_39 (looseW hd.view_39 []) mean mg mb h₀) (hk : cs.kind = .function) (hd' : dp + k < recursionLimit) (hu : un + 100 + 100 * k < cLine)
    (ret : ∀ (r : Value) (news' : Led) (h' : Heap) (tk' : Nat), Fr h₀ L h' m → News h₀ L h' news' → Post r news' → Q r { s with heap := h', toks := tk' }) :
    wpAny (model PySem.Challenge.rw_nu0121_01.row.prog w) (ktrTop dp un gd cn cs L a ccd cl outer) (call (.ref f) vs) Q E s := C _ _ _ _ _ _ _ _ _ _ _ _ _ _ _ _ _ _ _ _ _ B F X N T hk hd' hu ret

inductive Md where
  | closed | listen | synSent | synRcvd | estab | fin1 | fin2 | closeW | closing | lastAck | timeW

def Md.name : Md → Str
  | .closed => "closed" | .listen => "listen" | .synSent => "syn sent" | .synRcvd => "syn received" | .estab => "established" | .fin1 => "fin wait 1"
  | .fin2 => "fin wait 2" | .closeW => "close wait" | .closing => "closing" | .lastAck => "last ack" | .timeW => "time wait"

inductive MdIs : Md → List Value → Prop
  | closed (t : Tok) : MdIs .closed [.str "closed" t]
  | listen (t : Tok) : MdIs .listen [.str "listen" t]
  | synSent (t : Tok) : MdIs .synSent [.str "opening" t, .bool false]
  | synRcvd (t : Tok) : MdIs .synRcvd [.str "opening" t, .bool true]
  | estab (t u v : Tok) : MdIs .estab [.str "half" t, .str "open" u, .str "open" v, .bool false]
  | fin1 (t u v : Tok) : MdIs .fin1 [.str "half" t, .str "ending" u, .str "open" v, .bool true]
  | fin2 (t u v : Tok) : MdIs .fin2 [.str "half" t, .str "ended" u, .str "open" v, .bool true]
  | closeW (t u v : Tok) : MdIs .closeW [.str "half" t, .str "open" u, .str "ended" v, .bool false]
  | closing (t u v : Tok) : MdIs .closing [.str "half" t, .str "ending" u, .str "ended" v, .bool true]
  | lastAck (t u v : Tok) : MdIs .lastAck [.str "half" t, .str "ending" u, .str "ended" v, .bool false]
  | timeW (t u v : Tok) : MdIs .timeW [.str "half" t, .str "ended" u, .str "ended" v, .bool true]

/-- a call that gives back a model or None: the new tuple heads the ledger -/
def GivesMd (ra : Addr) (news : Led) (o : Option Md) (r : Value) (nw : Led) : Prop :=
  match o with
  | none => r = .none ∧ nw = news
  | some md => ∃ a vs, r = .ref a ∧ MdIs md vs ∧ nw = (a, tup vs) :: news ∧ (a = ra ∨ ∀ p ∈ news, p.1 ≠ a)

theorem news_two {h₀ h : Heap} {L : Addr} {p : Addr × Obj} {old all : Led} (N : News h₀ L h all) (h1 : p ∈ all) (h2 : ∀ q ∈ old, q ∈ all) : News h₀ L h (p :: old) := fun q hq => N q (by
  rcases List.mem_cons.mp hq with rfl | hq
  · exact h1
  · exact h2 q hq)
theorem fresh_all {D : Addr} {news : Led} (h : ∀ p ∈ news, p.1 < D) : ∀ p ∈ news, p.1 ≠ D := fun p hp => Nat.ne_of_lt (h p hp)
theorem fresh_lt {D : Addr} {news : Led} (h : AllLt D news) : ∀ p ∈ news, p.1 ≠ D := by
  induction news with
  | nil => intro p hp; cases hp
  | cons q r ih =>
    intro p hp
    rcases List.mem_cons.mp hp with rfl | hp
    · exact Nat.ne_of_lt h.1
    · exact ih h.2 p hp
section
variable {prog : Program} {w : World} {A : Around} {E : Value → Shared → Prop} {s : Shared} {Q : Value → Shared → Prop} {c x : Value} {xs : List PyData} {d : PyData} {as bs : List Addr}
theorem in_listB (b : Bool) (rc : Reads s.heap c (.list xs) as) (rx : Reads s.heap x d bs) (hxs : PyData.canLayAll0 xs = true) (hd : d.canLay0 = true) (hdep : d.depth ≤ 9) (hu : A.units + 64 < cLine)
    (hb : (xs.any fun y => PyData.eqv y d) = b) (h : Q (.bool b) s) : wpAny (model prog w) A (compareOp .In x c) Q E s := by
  refine SeqAt.in_list_reads rc rx hxs hd ?_ (by rw [hb]; exact h)
  have := Nat.min_le_right (PyData.depthAll xs) d.depth
  omega
theorem eq_dataB {y : Value} {e : PyData} (b : Bool) (rc : Reads s.heap x d as) (rx : Reads s.heap y e bs) (hd : SeqAt.shaped d = true) (he : SeqAt.shaped e = true) (hu : A.units + 64 < cLine)
    (hb : PyData.eqv d e = b) (h : Q (.bool b) s) : wpAny (model prog w) A (compareOp .Eq x y) Q E s := eq_dataH rc rx hd he hu (by rw [hb]; exact h)
theorem ne_dataB {y : Value} {e : PyData} (b : Bool) (rc : Reads s.heap x d as) (rx : Reads s.heap y e bs) (hd : SeqAt.shaped d = true) (he : SeqAt.shaped e = true) (hu : A.units + 64 < cLine)
    (hb : (!PyData.eqv d e) = b) (h : Q (.bool b) s) : wpAny (model prog w) A (compareOp .NotEq x y) Q E s := ne_dataH rc rx hd he hu (by rw [hb]; exact h)
end
section
variable {prog : Program} {w : World} {A : Around} {E : Value → Shared → Prop} {s : Shared} {h₀ : Heap} {L : Addr} {m : Str → Option Value} {news : Led}
theorem slice_tail {value slice : PySem.Expr} {t : Addr} {v0 : Value} {zs : List Value} {u : Tok} {Q : Value → Shared → Prop}
    (F : Fr h₀ L s.heap m) (N : News h₀ L s.heap news) (ht : IsTup s.heap t (v0 :: zs).toArray)
    (h : ∀ D h', Fr h₀ L h' m → News h₀ L h' ((D, tup zs) :: news) → (∀ p ∈ news, p.1 < D) → Q (.ref D) { s with heap := h' })
    (hs : subscripted slice false (.ref t) (.ref s.heap.objs.size) = operate [.ref s.heap.objs.size, .ref t] (getItem (.ref t) (.ref s.heap.objs.size)) := by with_unfolding_all rfl)
    (hg : ∀ r, letTemporaryGo value (.ref t) r = pure () := by intro _; with_unfolding_all rfl)
    (hsz : (v0 :: zs).toArray.size ≤ sizeLine := by size_fits) :
    wpAny (model prog w) A (subscriptTail value slice (.ref t) (.ref s.heap.objs.size)) Q E { s with heap := s.heap.push { cls := .type "slice", data := .fields #[.int (1 : Nat) u, .none, .none] } } :=
  slice_tuple_from F N ht (Nat.le_refl _) (by simp) (fun h' F' N' => h _ h' F' N' fun p hp => Nat.lt_succ_of_lt (Heap.lt_size (N p hp).1)) hs hg hsz
end
theorem getItem_tabS {prog : Program} {w : World} {A : Around} {E : Value → Shared → Prop} {s : Shared} {d : Addr} {D : List (PyData × PyData)} {k : Str} {tk : Tok} {x : Str} {Q : Value → Shared → Prop}
    (T : TabAt (PySem.strKind prog w) PyData.str s.heap d D) (hl : Spec.lookup (PyData.str k) D = some (.str x)) (h : ∀ t, Q (.str x t) { s with toks := s.toks + 1 }) : wpAny (model prog w) A (getItem (.ref d) (.str k tk)) Q E s :=
  getItem_tab (knd := PySem.strKind prog w) PyProof.V.same_str (strKind_is _ _ _ _) T hl fun v hv => by
    obtain ⟨t, e⟩ := PyProof.V.Flat.str_inv hv
    rw [e]
    exact h t
theorem cond_t {α : Type} {c : Bool} {a b : α} (h : c = true) : cond c a b = a := by subst h; rfl
theorem cond_f {α : Type} {c : Bool} {a b : α} (h : c = false) : cond c a b = b := by subst h; rfl
theorem GivesMd.none' {ra : Addr} {news : Led} {o : Option Md} (e : o = none) : GivesMd ra news o .none news := by subst e; exact ⟨rfl, rfl⟩
theorem GivesMd.some' {ra : Addr} {news : Led} {o : Option Md} {md : Md} {vs : List Value} {a : Addr} (e : o = some md) (hv : MdIs md vs) (hf : a = ra ∨ ∀ p ∈ news, p.1 ≠ a) : GivesMd ra news o (.ref a) ((a, tup vs) :: news) := by
  subst e; exact ⟨a, vs, rfl, hv, rfl, hf⟩
theorem GivesMd.as {ra : Addr} {news nw : Led} {o o' : Option Md} {r : Value} (h : GivesMd ra news o r nw) (e : o' = o) : GivesMd ra news o' r nw := by subst e; exact h
section
variable {k : Nat} {f : Addr} {vs : List Value} {news : Led}
    {w : World} {mean : ExcName → Option Value} {mg mb : Str → Option Value} {dp un : Nat} {gd : Option (List Code)} {cn : Str} {cs : Scope} {a : Addr} {ccd : Value} {cl : List (Str × Addr)} {outer : List Env} {A₀ : Around} {base h₀ : Heap} {L : Addr} {m : Str → Option Value} {s : Shared} {Q E : Value → Shared → Prop}
theorem Cut.useS {x : Str} (C : Cut k f vs news fun r nw => (∃ t, r = .str x t) ∧ nw = news)
    (B : Below A₀ base outer h₀) (F : Fr h₀ L s.heap m) (X : (hd.heap_39 w.params).In h₀) (N : News h₀ L s.heap news) (T : Top hd.view_39 (looseW hd.view_39 []) mean mg mb h₀) (hk : cs.kind = .function) (hd' : dp + k < recursionLimit) (hu : un + 100 + 100 * k < cLine)
    (ret : ∀ (t : Tok) (h' : Heap) (tk' : Nat), Fr h₀ L h' m → News h₀ L h' news → Q (.str x t) { s with heap := h', toks := tk' }) :
    wpAny (model PySem.Challenge.rw_nu0121_01.row.prog w) (ktrTop dp un gd cn cs L a ccd cl outer) (call (.ref f) vs) Q E s :=
  C.use B F X N T hk hd' hu fun r nw h' tk' F' N' p => by
    obtain ⟨⟨t, rfl⟩, rfl⟩ := p
    exact ret t h' tk' F' N'
theorem Cut.useB {b : Bool} (C : Cut k f vs news fun r nw => r = .bool b ∧ nw = news)
    (B : Below A₀ base outer h₀) (F : Fr h₀ L s.heap m) (X : (hd.heap_39 w.params).In h₀) (N : News h₀ L s.heap news) (T : Top hd.view_39 (looseW hd.view_39 []) mean mg mb h₀) (hk : cs.kind = .function) (hd' : dp + k < recursionLimit) (hu : un + 100 + 100 * k < cLine)
    (ret : ∀ (h' : Heap) (tk' : Nat), Fr h₀ L h' m → News h₀ L h' news → Q (.bool b) { s with heap := h', toks := tk' }) :
    wpAny (model PySem.Challenge.rw_nu0121_01.row.prog w) (ktrTop dp un gd cn cs L a ccd cl outer) (call (.ref f) vs) Q E s :=
  C.use B F X N T hk hd' hu fun r nw h' tk' F' N' p => by
    obtain ⟨rfl, rfl⟩ := p
    exact ret h' tk' F' N'
theorem Cut.useMd {ra : Addr} {o : Option Md} (C : Cut k f vs news (GivesMd ra news o))
    (B : Below A₀ base outer h₀) (F : Fr h₀ L s.heap m) (X : (hd.heap_39 w.params).In h₀) (N : News h₀ L s.heap news) (T : Top hd.view_39 (looseW hd.view_39 []) mean mg mb h₀) (hk : cs.kind = .function) (hd' : dp + k < recursionLimit) (hu : un + 100 + 100 * k < cLine)
    (ret0 : ∀ (h' : Heap) (tk' : Nat), o = none → Fr h₀ L h' m → News h₀ L h' news → Q .none { s with heap := h', toks := tk' })
    (ret1 : ∀ (md : Md) (b : Addr) (us : List Value) (h' : Heap) (tk' : Nat), o = some md → MdIs md us → (b = ra ∨ ∀ p ∈ news, p.1 ≠ b) → Fr h₀ L h' m → News h₀ L h' ((b, tup us) :: news) → Q (.ref b) { s with heap := h', toks := tk' }) :
    wpAny (model PySem.Challenge.rw_nu0121_01.row.prog w) (ktrTop dp un gd cn cs L a ccd cl outer) (call (.ref f) vs) Q E s :=
  C.use B F X N T hk hd' hu fun r nw h' tk' F' N' p => by
    cases o with
    | none =>
      obtain ⟨rfl, rfl⟩ := p
      exact ret0 h' tk' rfl F' N'
    | some md =>
      obtain ⟨b, us, rfl, hv, rfl, hf⟩ := p
      exact ret1 md b us h' tk' rfl hv hf F' N'
end
theorem or_some {α : Type} {a b : Option α} {y : α} (h : a = some y) : a.or b = some y := by subst h; rfl
theorem or_none {α : Type} {a b z : Option α} (h : a = none) (h2 : b = z) : a.or b = z := by subst h; exact h2
/-- a text, or None -/
def IsOpt (o : Option Str) (r : Value) : Prop := match o with
  | none => r = .none
  | some y => ∃ t, r = .str y t
theorem IsOpt.none' {o : Option Str} (e : o = none) : IsOpt o .none := by subst e; rfl
theorem IsOpt.some' {o : Option Str} {y : Str} {t : Tok} (e : o = some y) : IsOpt o (.str y t) := by subst e; exact ⟨t, rfl⟩
/-- an item of a made list at a place that lies in it: one of its items -/
theorem item_some {prog : Program} {w : World} {A : Around} {E : Value → Shared → Prop} {s : Shared} {value slice : PySem.Expr} {l : Addr} {vs : List Value} {k : Int} {u : Tok} {Q : Value → Shared → Prop}
    (hl : s.heap.IsList l vs.toArray) (h0 : 0 ≤ k) (h1 : k < (vs.length : Int)) (h2 : vs.length ≤ 16) (h : ∀ v ∈ vs, Q v s)
    (hs : subscripted slice false (.ref l) (.int k u) = operate [.ref l, .int k u] (getItem (.ref l) (.int k u))) :
    wpAny (model prog w) A (subscriptTail value slice (.ref l) (.int k u)) Q E s := by
  have hk : k.toNat < vs.length := by omega
  have hx : vs[k.toNat]? = some (vs[k.toNat]'hk) := List.getElem?_eq_getElem hk
  exact tail_any hl.typeIs slot_list_getitem.lookup (wpAny_getItem_list hl h0 (by omega) (by simpa using hx) (h _ (List.getElem_mem hk))) hs
/-- the pool: a list of two ints -/
abbrev src (a : Int) (ta : Tok) (b : Int) (tb : Tok) (n : Nat) : Obj := W.listOf #[.int a ta, .int b tb] n
def Took (top : Int) (l : Addr) (rest : Led) (r : Value) (nw : Led) : Prop :=
  ∃ (q : Int) (t : Tok) (a : Int) (ta : Tok) (b : Int) (tb : Tok) (n : Nat), r = .int q t ∧ 0 ≤ q ∧ q < top ∧ 0 ≤ a ∧ 0 ≤ b ∧ nw = (l, src a ta b tb n) :: rest
theorem took_high {top a b : Int} {l : Addr} {rest : Led} {t ta tb : Tok} {n : Nat} (h0 : 0 < top) (ha : 0 ≤ a) (hb : 0 ≤ b) : Took top l rest (.int (a.fmod top) t) ((l, src (a.fdiv top) ta b tb n) :: rest) :=
  ⟨_, _, _, _, _, _, _, rfl, Int.fmod_nonneg_of_pos _ h0, Int.fmod_lt_of_pos _ h0, by rw [Int.fdiv_eq_ediv_of_nonneg _ (by omega)]; exact Int.ediv_nonneg ha (by omega), hb, rfl⟩
theorem took_low {top a b c : Int} {l : Addr} {rest : Led} {t ta tb : Tok} {n : Nat} (h0 : 0 < top) (ha : 0 ≤ a) : Took top l rest (.int (c.fmod top) t) ((l, src a ta (b.fmod 2147483647) tb n) :: rest) :=
  ⟨_, _, _, _, _, _, _, rfl, Int.fmod_nonneg_of_pos _ h0, Int.fmod_lt_of_pos _ h0, ha, Int.fmod_nonneg_of_pos _ (by decide), rfl⟩
/-- one of some values is drawn -/
def Drawn (vs : List Value) (l : Addr) (rest : Led) (r : Value) (nw : Led) : Prop :=
  ∃ (a : Int) (ta : Tok) (b : Int) (tb : Tok) (n : Nat), r ∈ vs ∧ 0 ≤ a ∧ 0 ≤ b ∧ nw = (l, src a ta b tb n) :: rest
theorem len_some {prog : Program} {w : World} {A : Around} {E : Value → Shared → Prop} {s : Shared} {l : Addr} {vs : List Value} {Q : Value → Shared → Prop}
    (hl : s.heap.IsList l vs.toArray) (h2 : vs.length ≤ 16) (h : ∀ t tk, Q (.int (vs.length : Int) t) { s with toks := tk }) : wpAny (model prog w) A (call (.builtin "len") [.ref l]) Q E s :=
  len_list hl (by rw [List.size_toArray]; omega) (by rw [List.size_toArray]; exact h _ _)
section
variable {k : Nat} {f : Addr} {vs us : List Value} {news rest : Led} {l : Addr} {top : Int}
    {w : World} {mean : ExcName → Option Value} {mg mb : Str → Option Value} {dp un : Nat} {gd : Option (List Code)} {cn : Str} {cs : Scope} {a : Addr} {ccd : Value} {cl : List (Str × Addr)} {outer : List Env} {A₀ : Around} {base h₀ : Heap} {L : Addr} {m : Str → Option Value} {s : Shared} {Q E : Value → Shared → Prop}
theorem Cut.useTook (C : Cut k f vs news (Took top l rest))
    (B : Below A₀ base outer h₀) (F : Fr h₀ L s.heap m) (X : (hd.heap_39 w.params).In h₀) (N : News h₀ L s.heap news) (T : Top hd.view_39 (looseW hd.view_39 []) mean mg mb h₀) (hk : cs.kind = .function) (hd' : dp + k < recursionLimit) (hu : un + 100 + 100 * k < cLine)
    (ret : ∀ (q : Int) (t : Tok) (a : Int) (ta : Tok) (b : Int) (tb : Tok) (n : Nat) (h' : Heap) (tk' : Nat), 0 ≤ q → q < top → 0 ≤ a → 0 ≤ b → Fr h₀ L h' m → News h₀ L h' ((l, src a ta b tb n) :: rest) → Q (.int q t) { s with heap := h', toks := tk' }) :
    wpAny (model PySem.Challenge.rw_nu0121_01.row.prog w) (ktrTop dp un gd cn cs L a ccd cl outer) (call (.ref f) vs) Q E s :=
  C.use B F X N T hk hd' hu fun r nw h' tk' F' N' p => by
    obtain ⟨q, t, a, ta, b, tb, n, rfl, h0, h1, h2, h3, rfl⟩ := p
    exact ret q t a ta b tb n h' tk' h0 h1 h2 h3 F' N'
theorem Cut.useDrawn (C : Cut k f vs news (Drawn us l rest))
    (B : Below A₀ base outer h₀) (F : Fr h₀ L s.heap m) (X : (hd.heap_39 w.params).In h₀) (N : News h₀ L s.heap news) (T : Top hd.view_39 (looseW hd.view_39 []) mean mg mb h₀) (hk : cs.kind = .function) (hd' : dp + k < recursionLimit) (hu : un + 100 + 100 * k < cLine)
    (ret : ∀ (r : Value) (a : Int) (ta : Tok) (b : Int) (tb : Tok) (n : Nat) (h' : Heap) (tk' : Nat), r ∈ us → 0 ≤ a → 0 ≤ b → Fr h₀ L h' m → News h₀ L h' ((l, src a ta b tb n) :: rest) → Q r { s with heap := h', toks := tk' }) :
    wpAny (model PySem.Challenge.rw_nu0121_01.row.prog w) (ktrTop dp un gd cn cs L a ccd cl outer) (call (.ref f) vs) Q E s :=
  C.use B F X N T hk hd' hu fun r nw h' tk' F' N' p => by
    obtain ⟨a, ta, b, tb, n, hr, h2, h3, rfl⟩ := p
    exact ret r a ta b tb n h' tk' hr h2 h3 F' N'
end
theorem drawn_of {vs : List Value} {l : Addr} {rest : Led} {v : Value} {a b : Int} {ta tb : Tok} {n : Nat} (hv : v ∈ vs) (ha : 0 ≤ a) (hb : 0 ≤ b) : Drawn vs l rest v ((l, src a ta b tb n) :: rest) := ⟨_, _, _, _, _, hv, ha, hb, rfl⟩
/-- a model as data -/
def Md.pd : Md → List PyData
  | .closed => [.str "closed"] | .listen => [.str "listen"] | .synSent => [.str "opening", .bool false] | .synRcvd => [.str "opening", .bool true]
  | .estab => [.str "half", .str "open", .str "open", .bool false] | .fin1 => [.str "half", .str "ending", .str "open", .bool true] | .fin2 => [.str "half", .str "ended", .str "open", .bool true]
  | .closeW => [.str "half", .str "open", .str "ended", .bool false] | .closing => [.str "half", .str "ending", .str "ended", .bool true]
  | .lastAck => [.str "half", .str "ending", .str "ended", .bool false] | .timeW => [.str "half", .str "ended", .str "ended", .bool true]
theorem MdIs.reads {h : Heap} {md : Md} {vs : List Value} (hv : MdIs md vs) : ReadsAll h vs md.pd [] := by
  cases hv
  case closed => exact .cons (.str _ _) .nil
  case listen => exact .cons (.str _ _) .nil
  case synSent => exact .cons (.str _ _) (.cons (.bool _) .nil)
  case synRcvd => exact .cons (.str _ _) (.cons (.bool _) .nil)
  all_goals exact .cons (.str _ _) (.cons (.str _ _) (.cons (.str _ _) (.cons (.bool _) .nil)))
theorem Md.lay (md : Md) : (PyData.tuple md.pd).canLay0 = true := by cases md <;> decide +kernel
theorem Md.deep (md : Md) : (PyData.tuple md.pd).depth ≤ 9 := by cases md <;> decide +kernel
theorem Md.shaped (md : Md) : SeqAt.shaped (PyData.tuple md.pd) = true := by cases md <;> decide +kernel
end -- A1
section -- C3
local macro_rules | `(tactic| k_mem) => `(tactic| first | with_reducible exact List.mem_cons_self | with_reducible assumption | (refine List.mem_cons_of_mem _ ?_; k_mem))
local macro_rules | `(tactic| walk_at "compareOp In ref ref") => `(tactic| (k_here; (with_reducible show wpAny _ _ (compareOp CmpOp.In (Value.ref _) (Value.ref _)) _ _ _); k_dflt first
  | (refine' in_listB true ?a ?b ?c ?d ?e ?u ?v ?_; (case a => ked_read); (case b => ked_read); (case c => decide +kernel); (case d => decide +kernel); (case e => decide +kernel); (case u => ktr_units); (case v => decide +kernel); k_whole)
  | (refine' in_listB false ?a ?b ?c ?d ?e ?u ?v ?_; (case a => ked_read); (case b => ked_read); (case c => decide +kernel); (case d => decide +kernel); (case e => decide +kernel); (case u => ktr_units); (case v => decide +kernel); k_whole)))
local macro_rules | `(tactic| walk_at "compareOp Eq ref ref") => `(tactic| (k_here; (with_reducible show wpAny _ _ (compareOp CmpOp.Eq (Value.ref _) (Value.ref _)) _ _ _); k_dflt first
  | (refine' eq_dataB true ?a ?b ?c ?d ?u ?v ?_; (case a => ked_read); (case b => ked_read); (case c => decide +kernel); (case d => decide +kernel); (case u => ktr_units); (case v => decide +kernel); k_whole)
  | (refine' eq_dataB false ?a ?b ?c ?d ?u ?v ?_; (case a => ked_read); (case b => ked_read); (case c => decide +kernel); (case d => decide +kernel); (case u => ktr_units); (case v => decide +kernel); k_whole)))
local macro_rules | `(tactic| walk_at "subscriptTail Name Slice ref ref") => `(tactic| (k_here; (with_reducible show wpAny _ _ (subscriptTail _ (PySem.Expr.Slice _ none none _) (Value.ref _) (Value.ref _)) _ _ _); k_dflt (refine' slice_tail ?F ?N ?t ?_ ?s ?g ?z; (case F => k_asm); (case N => k_asm); (case t => exact News.isTup (by k_asm) (by k_mem)); (case s => with_unfolding_all rfl); (case g => (intro _; with_unfolding_all rfl)); (case z => size_fits); k_whole); intro D' h' F' N' l1; (try k_lt l1); (try k_sweep)))
local macro_rules | `(tactic| walk_at "ite") => `(tactic| (k_closed; first
  | (with_reducible refine' ite_pos ?hc ?_; (case hc => with_unfolding_all decide +kernel))
  | (with_reducible refine' ite_neg ?hc ?_; (case hc => with_unfolding_all decide +kernel))))
local macro_rules | `(tactic| walk_at "getItem ref str") => `(tactic| (k_here; (first
  | (with_reducible refine' getItem_tabS (x := "established") ?k1 ?k2 ?_; (case k1 => k_dflt k_tabat); (case k2 => k_dflt kernel_rfl!); k_whole)
  | (with_reducible refine' getItem_tabS (x := "fin wait 1") ?k1 ?k2 ?_; (case k1 => k_dflt k_tabat); (case k2 => k_dflt kernel_rfl!); k_whole)
  | (with_reducible refine' getItem_tabS (x := "fin wait 2") ?k1 ?k2 ?_; (case k1 => k_dflt k_tabat); (case k2 => k_dflt kernel_rfl!); k_whole)); intro _))
def maySend (x : Str) : Bool := (["syn sent", "syn received", "established", "close wait"] : List Str).any fun y => y == x
set_option maxRecDepth 100000 in
set_option maxHeartbeats 0 in
theorem may_send_cut (x : Str) (t : Tok) (news : Led) : Cut 1 42 [.str x t] news (fun r nw => r = .bool (maySend x) ∧ nw = news) := by
  w_on
  unfold Cut
  k_fill
  intro w mean mg mb dp un gd cn cs a ccd cl outer A₀ base h₀ L m s Q E B F X N T hk hdp hun hret
  refine wpAny_call ?_
  (first | k_dflt cell_enter | fail "the def is not entered")
  k_steps
  all_goals first | exact hret _ _ _ _ (by k_asm) (cb_drop (by k_asm) (by kcj_all)) ⟨by first | rfl | cb_eq, rfl⟩
def mayReceive (x : Str) : Bool := (["established", "fin wait 1", "fin wait 2"] : List Str).any fun y => y == x
set_option maxRecDepth 100000 in
set_option maxHeartbeats 0 in
theorem may_receive_cut (x : Str) (t : Tok) (news : Led) : Cut 1 49 [.str x t] news (fun r nw => r = .bool (mayReceive x) ∧ nw = news) := by
  w_on
  unfold Cut
  k_fill
  intro w mean mg mb dp un gd cn cs a ccd cl outer A₀ base h₀ L m s Q E B F X N T hk hdp hun hret
  refine wpAny_call ?_
  (first | k_dflt cell_enter | fail "the def is not entered")
  k_steps
  all_goals first | exact hret _ _ _ _ (by k_asm) (cb_drop (by k_asm) (by kcj_all)) ⟨by first | rfl | cb_eq, rfl⟩
def isSynchronized (x : Str) : Bool := !(["closed", "listen", "syn sent", "syn received"] : List Str).any fun y => y == x
set_option maxRecDepth 100000 in
set_option maxHeartbeats 0 in
theorem is_synchronized_cut (x : Str) (t : Tok) (news : Led) : Cut 1 56 [.str x t] news (fun r nw => r = .bool (isSynchronized x) ∧ nw = news) := by
  w_on
  unfold Cut
  k_fill
  intro w mean mg mb dp un gd cn cs a ccd cl outer A₀ base h₀ L m s Q E B F X N T hk hdp hun hret
  refine wpAny_call ?_
  (first | k_dflt cell_enter | fail "the def is not entered")
  k_steps
  all_goals first | exact hret _ _ _ _ (by k_asm) (cb_drop (by k_asm) (by kcj_all)) ⟨by first | rfl | cb_eq, rfl⟩
def isSending (x : Str) : Bool := (["established", "fin wait 1", "close wait", "closing", "last ack"] : List Str).any fun y => y == x
set_option maxRecDepth 100000 in
set_option maxHeartbeats 0 in
theorem is_sending_cut (x : Str) (t : Tok) (news : Led) : Cut 1 63 [.str x t] news (fun r nw => r = .bool (isSending x) ∧ nw = news) := by
  w_on
  unfold Cut
  k_fill
  intro w mean mg mb dp un gd cn cs a ccd cl outer A₀ base h₀ L m s Q E B F X N T hk hdp hun hret
  refine wpAny_call ?_
  (first | k_dflt cell_enter | fail "the def is not entered")
  k_steps
  all_goals first | exact hret _ _ _ _ (by k_asm) (cb_drop (by k_asm) (by kcj_all)) ⟨by first | rfl | cb_eq, rfl⟩
end -- C3
section -- C4
local macro_rules | `(tactic| walk_at "PAD") => `(tactic| fail "pad")
local macro_rules | `(tactic| walk_at "PAD") => `(tactic| fail "pad")
local macro_rules | `(tactic| walk_at "PAD") => `(tactic| fail "pad")
local macro_rules | `(tactic| walk_at "PAD") => `(tactic| fail "pad")
local macro_rules | `(tactic| walk_at "PAD") => `(tactic| fail "pad")
local macro_rules | `(tactic| walk_at "PAD") => `(tactic| fail "pad")
local macro_rules | `(tactic| k_mem) => `(tactic| first | with_reducible exact List.mem_cons_self | with_reducible assumption | (refine List.mem_cons_of_mem _ ?_; k_mem))
local macro_rules | `(tactic| walk_at "compareOp In ref ref") => `(tactic| (k_here; (with_reducible show wpAny _ _ (compareOp CmpOp.In (Value.ref _) (Value.ref _)) _ _ _); k_dflt first
  | (refine' in_listB true ?a ?b ?c ?d ?e ?u ?v ?_; (case a => ked_read); (case b => ked_read); (case c => decide +kernel); (case d => decide +kernel); (case e => decide +kernel); (case u => ktr_units); (case v => decide +kernel); k_whole)
  | (refine' in_listB false ?a ?b ?c ?d ?e ?u ?v ?_; (case a => ked_read); (case b => ked_read); (case c => decide +kernel); (case d => decide +kernel); (case e => decide +kernel); (case u => ktr_units); (case v => decide +kernel); k_whole)))
local macro_rules | `(tactic| walk_at "compareOp Eq ref ref") => `(tactic| (k_here; (with_reducible show wpAny _ _ (compareOp CmpOp.Eq (Value.ref _) (Value.ref _)) _ _ _); k_dflt first
  | (refine' eq_dataB true ?a ?b ?c ?d ?u ?v ?_; (case a => ked_read); (case b => ked_read); (case c => decide +kernel); (case d => decide +kernel); (case u => ktr_units); (case v => decide +kernel); k_whole)
  | (refine' eq_dataB false ?a ?b ?c ?d ?u ?v ?_; (case a => ked_read); (case b => ked_read); (case c => decide +kernel); (case d => decide +kernel); (case u => ktr_units); (case v => decide +kernel); k_whole)))
local macro_rules | `(tactic| walk_at "subscriptTail Name Slice ref ref") => `(tactic| (k_here; (with_reducible show wpAny _ _ (subscriptTail _ (PySem.Expr.Slice _ none none _) (Value.ref _) (Value.ref _)) _ _ _); k_dflt (refine' slice_tail ?F ?N ?t ?_ ?s ?g ?z; (case F => k_asm); (case N => k_asm); (case t => exact News.isTup (by k_asm) (by k_mem)); (case s => with_unfolding_all rfl); (case g => (intro _; with_unfolding_all rfl)); (case z => size_fits); k_whole); intro D' h' F' N' l1; (try k_lt l1); (try k_sweep)))
local macro_rules | `(tactic| walk_at "ite") => `(tactic| (k_closed; first
  | (with_reducible refine' ite_pos ?hc ?_; (case hc => with_unfolding_all decide +kernel))
  | (with_reducible refine' ite_neg ?hc ?_; (case hc => with_unfolding_all decide +kernel))))
local macro_rules | `(tactic| walk_at "getItem ref str") => `(tactic| (k_here; (first
  | (with_reducible refine' getItem_tabS (x := "established") ?k1 ?k2 ?_; (case k1 => k_dflt k_tabat); (case k2 => k_dflt kernel_rfl!); k_whole)
  | (with_reducible refine' getItem_tabS (x := "fin wait 1") ?k1 ?k2 ?_; (case k1 => k_dflt k_tabat); (case k2 => k_dflt kernel_rfl!); k_whole)
  | (with_reducible refine' getItem_tabS (x := "fin wait 2") ?k1 ?k2 ?_; (case k1 => k_dflt k_tabat); (case k2 => k_dflt kernel_rfl!); k_whole)); intro _))
def myEnd : Md → Option Md
  | .listen => some .closed
  | .synSent => some .closed
  | .synRcvd => some .fin1
  | .estab => some .fin1
  | .closeW => some .lastAck
  | _ => none
def theirEnd : Md → Option Md
  | .synRcvd => some .closeW
  | .estab => some .closeW
  | .fin1 => some .closing
  | .fin2 => some .timeW
  | .closeW => some .closeW
  | .closing => some .closing
  | .lastAck => some .lastAck
  | .timeW => some .timeW
  | _ => none
def toldEnd : Md → Option Md
  | .fin1 => some .fin2
  | .closing => some .timeW
  | .lastAck => some .closed
  | _ => none
set_option maxRecDepth 100000 in
set_option maxHeartbeats 0 in
theorem my_end_cut (md : Md) (vs : List Value) (ra : Addr) (news : Led) (hv : MdIs md vs) (hm : (ra, tup vs) ∈ news) : Cut 1 112 [.ref ra] news (GivesMd ra news (myEnd md)) := by
  w_on
  unfold Cut
  k_fill
  intro w mean mg mb dp un gd cn cs a ccd cl outer A₀ base h₀ L m s Q E B F X N T hk hdp hun hret
  cases hv
  all_goals
    refine wpAny_call ?_
    (first | k_dflt cell_enter | fail "the def is not entered")
    k_steps
    all_goals first | exact hret _ _ _ _ (by k_asm) (cb_drop (by k_asm) (by kcj_all)) ⟨rfl, rfl⟩ | exact hret _ _ _ _ (by k_asm) (news_two (by k_asm) (by k_mem) (by kcj_all)) ⟨_, _, rfl, (by first | exact MdIs.closed _ | exact MdIs.listen _ | exact MdIs.synSent _ | exact MdIs.synRcvd _ | exact MdIs.estab _ _ _ | exact MdIs.fin1 _ _ _ | exact MdIs.fin2 _ _ _ | exact MdIs.closeW _ _ _ | exact MdIs.closing _ _ _ | exact MdIs.lastAck _ _ _ | exact MdIs.timeW _ _ _), rfl, Or.inr (by first | exact fresh_all (by assumption) | exact fresh_lt (by assumption) | exact fresh_lt (And.right (by assumption)) | exact fresh_lt (And.right (And.right (by assumption))) | exact fresh_lt (And.right (And.right (And.right (by assumption)))) | exact fresh_lt (And.right (And.right (And.right (And.right (by assumption))))))⟩
set_option maxRecDepth 100000 in
set_option maxHeartbeats 0 in
theorem their_end_cut (md : Md) (vs : List Value) (ra : Addr) (news : Led) (hv : MdIs md vs) (hm : (ra, tup vs) ∈ news) : Cut 1 119 [.ref ra] news (GivesMd ra news (theirEnd md)) := by
  w_on
  unfold Cut
  k_fill
  intro w mean mg mb dp un gd cn cs a ccd cl outer A₀ base h₀ L m s Q E B F X N T hk hdp hun hret
  cases hv
  all_goals
    refine wpAny_call ?_
    (first | k_dflt cell_enter | fail "the def is not entered")
    k_steps
    all_goals first | exact hret _ _ _ _ (by k_asm) (cb_drop (by k_asm) (by kcj_all)) ⟨rfl, rfl⟩ | exact hret _ _ _ _ (by k_asm) (news_two (by k_asm) (by k_mem) (by kcj_all)) ⟨_, _, rfl, (by first | exact MdIs.closed _ | exact MdIs.listen _ | exact MdIs.synSent _ | exact MdIs.synRcvd _ | exact MdIs.estab _ _ _ | exact MdIs.fin1 _ _ _ | exact MdIs.fin2 _ _ _ | exact MdIs.closeW _ _ _ | exact MdIs.closing _ _ _ | exact MdIs.lastAck _ _ _ | exact MdIs.timeW _ _ _), rfl, Or.inr (by first | exact fresh_all (by assumption) | exact fresh_lt (by assumption) | exact fresh_lt (And.right (by assumption)) | exact fresh_lt (And.right (And.right (by assumption))) | exact fresh_lt (And.right (And.right (And.right (by assumption)))) | exact fresh_lt (And.right (And.right (And.right (And.right (by assumption))))))⟩
set_option maxRecDepth 100000 in
set_option maxHeartbeats 0 in
theorem told_end_cut (md : Md) (vs : List Value) (ra : Addr) (news : Led) (hv : MdIs md vs) (hm : (ra, tup vs) ∈ news) : Cut 1 126 [.ref ra] news (GivesMd ra news (toldEnd md)) := by
  w_on
  unfold Cut
  k_fill
  intro w mean mg mb dp un gd cn cs a ccd cl outer A₀ base h₀ L m s Q E B F X N T hk hdp hun hret
  cases hv
  all_goals
    refine wpAny_call ?_
    (first | k_dflt cell_enter | fail "the def is not entered")
    k_steps
    all_goals first | exact hret _ _ _ _ (by k_asm) (cb_drop (by k_asm) (by kcj_all)) ⟨rfl, rfl⟩ | exact hret _ _ _ _ (by k_asm) (news_two (by k_asm) (by k_mem) (by kcj_all)) ⟨_, _, rfl, (by first | exact MdIs.closed _ | exact MdIs.listen _ | exact MdIs.synSent _ | exact MdIs.synRcvd _ | exact MdIs.estab _ _ _ | exact MdIs.fin1 _ _ _ | exact MdIs.fin2 _ _ _ | exact MdIs.closeW _ _ _ | exact MdIs.closing _ _ _ | exact MdIs.lastAck _ _ _ | exact MdIs.timeW _ _ _), rfl, Or.inr (by first | exact fresh_all (by assumption) | exact fresh_lt (by assumption) | exact fresh_lt (And.right (by assumption)) | exact fresh_lt (And.right (And.right (by assumption))) | exact fresh_lt (And.right (And.right (And.right (by assumption)))) | exact fresh_lt (And.right (And.right (And.right (And.right (by assumption))))))⟩
end -- C4
section -- C5
local macro_rules | `(tactic| walk_at "PAD") => `(tactic| fail "pad")
local macro_rules | `(tactic| walk_at "PAD") => `(tactic| fail "pad")
local macro_rules | `(tactic| walk_at "PAD") => `(tactic| fail "pad")
local macro_rules | `(tactic| walk_at "PAD") => `(tactic| fail "pad")
local macro_rules | `(tactic| walk_at "PAD") => `(tactic| fail "pad")
local macro_rules | `(tactic| walk_at "PAD") => `(tactic| fail "pad")
local macro_rules | `(tactic| walk_at "PAD") => `(tactic| fail "pad")
local macro_rules | `(tactic| walk_at "PAD") => `(tactic| fail "pad")
local macro_rules | `(tactic| walk_at "PAD") => `(tactic| fail "pad")
local macro_rules | `(tactic| walk_at "PAD") => `(tactic| fail "pad")
local macro_rules | `(tactic| walk_at "PAD") => `(tactic| fail "pad")
local macro_rules | `(tactic| walk_at "PAD") => `(tactic| fail "pad")
local macro_rules | `(tactic| k_mem) => `(tactic| first | with_reducible exact List.mem_cons_self | with_reducible assumption | (refine List.mem_cons_of_mem _ ?_; k_mem))
local macro_rules | `(tactic| walk_at "compareOp In ref ref") => `(tactic| (k_here; (with_reducible show wpAny _ _ (compareOp CmpOp.In (Value.ref _) (Value.ref _)) _ _ _); k_dflt first
  | (refine' in_listB true ?a ?b ?c ?d ?e ?u ?v ?_; (case a => ked_read); (case b => ked_read); (case c => decide +kernel); (case d => decide +kernel); (case e => decide +kernel); (case u => ktr_units); (case v => decide +kernel); k_whole)
  | (refine' in_listB false ?a ?b ?c ?d ?e ?u ?v ?_; (case a => ked_read); (case b => ked_read); (case c => decide +kernel); (case d => decide +kernel); (case e => decide +kernel); (case u => ktr_units); (case v => decide +kernel); k_whole)))
local macro_rules | `(tactic| walk_at "compareOp Eq ref ref") => `(tactic| (k_here; (with_reducible show wpAny _ _ (compareOp CmpOp.Eq (Value.ref _) (Value.ref _)) _ _ _); k_dflt first
  | (refine' eq_dataB true ?a ?b ?c ?d ?u ?v ?_; (case a => ked_read); (case b => ked_read); (case c => decide +kernel); (case d => decide +kernel); (case u => ktr_units); (case v => decide +kernel); k_whole)
  | (refine' eq_dataB false ?a ?b ?c ?d ?u ?v ?_; (case a => ked_read); (case b => ked_read); (case c => decide +kernel); (case d => decide +kernel); (case u => ktr_units); (case v => decide +kernel); k_whole)))
local macro_rules | `(tactic| walk_at "subscriptTail Name Slice ref ref") => `(tactic| (k_here; (with_reducible show wpAny _ _ (subscriptTail _ (PySem.Expr.Slice _ none none _) (Value.ref _) (Value.ref _)) _ _ _); k_dflt (refine' slice_tail ?F ?N ?t ?_ ?s ?g ?z; (case F => k_asm); (case N => k_asm); (case t => exact News.isTup (by k_asm) (by k_mem)); (case s => with_unfolding_all rfl); (case g => (intro _; with_unfolding_all rfl)); (case z => size_fits); k_whole); intro D' h' F' N' l1; (try k_lt l1); (try k_sweep)))
local macro_rules | `(tactic| walk_at "ite") => `(tactic| (k_closed; first
  | (with_reducible refine' ite_pos ?hc ?_; (case hc => with_unfolding_all decide +kernel))
  | (with_reducible refine' ite_neg ?hc ?_; (case hc => with_unfolding_all decide +kernel))))
local macro_rules | `(tactic| walk_at "getItem ref str") => `(tactic| (k_here; (first
  | (with_reducible refine' getItem_tabS (x := "established") ?k1 ?k2 ?_; (case k1 => k_dflt k_tabat); (case k2 => k_dflt kernel_rfl!); k_whole)
  | (with_reducible refine' getItem_tabS (x := "fin wait 1") ?k1 ?k2 ?_; (case k1 => k_dflt k_tabat); (case k2 => k_dflt kernel_rfl!); k_whole)
  | (with_reducible refine' getItem_tabS (x := "fin wait 2") ?k1 ?k2 ?_; (case k1 => k_dflt k_tabat); (case k2 => k_dflt kernel_rfl!); k_whole)); intro _))
set_option maxRecDepth 100000 in
set_option maxHeartbeats 0 in
theorem name_cut (md : Md) (vs : List Value) (ra : Addr) (news : Led) (hv : MdIs md vs) (hm : (ra, tup vs) ∈ news) : Cut 1 91 [.ref ra] news (fun r nw => (∃ t, r = .str md.name t) ∧ nw = news) := by
  w_on
  unfold Cut
  k_fill
  intro w mean mg mb dp un gd cn cs a ccd cl outer A₀ base h₀ L m s Q E B F X N T hk hdp hun hret
  cases hv
  all_goals
    refine wpAny_call ?_
    (first | k_dflt cell_enter | fail "the def is not entered")
    k_steps
    all_goals exact hret _ _ _ _ (by k_asm) (cb_drop (by k_asm) (by kcj_all)) ⟨⟨_, rfl⟩, rfl⟩
end -- C5
section -- C7
local macro_rules | `(tactic| walk_at "PAD") => `(tactic| fail "pad")
local macro_rules | `(tactic| walk_at "PAD") => `(tactic| fail "pad")
local macro_rules | `(tactic| walk_at "PAD") => `(tactic| fail "pad")
local macro_rules | `(tactic| walk_at "PAD") => `(tactic| fail "pad")
local macro_rules | `(tactic| walk_at "PAD") => `(tactic| fail "pad")
local macro_rules | `(tactic| walk_at "PAD") => `(tactic| fail "pad")
local macro_rules | `(tactic| walk_at "PAD") => `(tactic| fail "pad")
local macro_rules | `(tactic| walk_at "PAD") => `(tactic| fail "pad")
local macro_rules | `(tactic| walk_at "PAD") => `(tactic| fail "pad")
local macro_rules | `(tactic| walk_at "PAD") => `(tactic| fail "pad")
local macro_rules | `(tactic| walk_at "PAD") => `(tactic| fail "pad")
local macro_rules | `(tactic| walk_at "PAD") => `(tactic| fail "pad")
local macro_rules | `(tactic| walk_at "PAD") => `(tactic| fail "pad")
local macro_rules | `(tactic| walk_at "PAD") => `(tactic| fail "pad")
local macro_rules | `(tactic| walk_at "PAD") => `(tactic| fail "pad")
local macro_rules | `(tactic| walk_at "PAD") => `(tactic| fail "pad")
local macro_rules | `(tactic| walk_at "PAD") => `(tactic| fail "pad")
local macro_rules | `(tactic| walk_at "PAD") => `(tactic| fail "pad")
local macro_rules | `(tactic| k_mem) => `(tactic| first | with_reducible exact List.mem_cons_self | with_reducible assumption | (refine List.mem_cons_of_mem _ ?_; k_mem))
local macro_rules | `(tactic| walk_at "compareOp In ref ref") => `(tactic| (k_here; (with_reducible show wpAny _ _ (compareOp CmpOp.In (Value.ref _) (Value.ref _)) _ _ _); k_dflt first
  | (refine' in_listB true ?a ?b ?c ?d ?e ?u ?v ?_; (case a => ked_read); (case b => ked_read); (case c => decide +kernel); (case d => decide +kernel); (case e => decide +kernel); (case u => ktr_units); (case v => decide +kernel); k_whole)
  | (refine' in_listB false ?a ?b ?c ?d ?e ?u ?v ?_; (case a => ked_read); (case b => ked_read); (case c => decide +kernel); (case d => decide +kernel); (case e => decide +kernel); (case u => ktr_units); (case v => decide +kernel); k_whole)))
local macro_rules | `(tactic| walk_at "compareOp Eq ref ref") => `(tactic| (k_here; (with_reducible show wpAny _ _ (compareOp CmpOp.Eq (Value.ref _) (Value.ref _)) _ _ _); k_dflt first
  | (refine' eq_dataB true ?a ?b ?c ?d ?u ?v ?_; (case a => ked_read); (case b => ked_read); (case c => decide +kernel); (case d => decide +kernel); (case u => ktr_units); (case v => decide +kernel); k_whole)
  | (refine' eq_dataB false ?a ?b ?c ?d ?u ?v ?_; (case a => ked_read); (case b => ked_read); (case c => decide +kernel); (case d => decide +kernel); (case u => ktr_units); (case v => decide +kernel); k_whole)))
local macro_rules | `(tactic| walk_at "subscriptTail Name Slice ref ref") => `(tactic| (k_here; (with_reducible show wpAny _ _ (subscriptTail _ (PySem.Expr.Slice _ none none _) (Value.ref _) (Value.ref _)) _ _ _); k_dflt (refine' slice_tail ?F ?N ?t ?_ ?s ?g ?z; (case F => k_asm); (case N => k_asm); (case t => exact News.isTup (by k_asm) (by k_mem)); (case s => with_unfolding_all rfl); (case g => (intro _; with_unfolding_all rfl)); (case z => size_fits); k_whole); intro D' h' F' N' l1; (try k_lt l1); (try k_sweep)))
local macro_rules | `(tactic| walk_at "ite") => `(tactic| (k_closed; first
  | (with_reducible refine' ite_pos ?hc ?_; (case hc => with_unfolding_all decide +kernel))
  | (with_reducible refine' ite_neg ?hc ?_; (case hc => with_unfolding_all decide +kernel))))
local macro_rules | `(tactic| walk_at "getItem ref str") => `(tactic| (k_here; (first
  | (with_reducible refine' getItem_tabS (x := "established") ?k1 ?k2 ?_; (case k1 => k_dflt k_tabat); (case k2 => k_dflt kernel_rfl!); k_whole)
  | (with_reducible refine' getItem_tabS (x := "fin wait 1") ?k1 ?k2 ?_; (case k1 => k_dflt k_tabat); (case k2 => k_dflt kernel_rfl!); k_whole)
  | (with_reducible refine' getItem_tabS (x := "fin wait 2") ?k1 ?k2 ?_; (case k1 => k_dflt k_tabat); (case k2 => k_dflt kernel_rfl!); k_whole)); intro _))
local macro_rules | `(tactic| ked_reads) => `(tactic| exact MdIs.reads (by with_reducible assumption))
local macro_rules | `(tactic| walk_at "compareOp In ref ref") => `(tactic| (k_here; (with_reducible show wpAny _ _ (compareOp CmpOp.In (Value.ref _) (Value.ref _)) _ _ _); k_dflt (refine' in_listB _ ?a ?b ?c ?d ?e ?u ?v ?_; (case a => ked_read); (case b => ked_read); (case c => decide +kernel); (case d => exact Md.lay _); (case e => exact Md.deep _); (case u => ktr_units); (case v => exact rfl); k_whole)))
local macro_rules | `(tactic| walk_at "compareOp Eq ref ref") => `(tactic| (k_here; (with_reducible show wpAny _ _ (compareOp CmpOp.Eq (Value.ref _) (Value.ref _)) _ _ _); k_dflt (refine' eq_dataB _ ?a ?b ?c ?d ?u ?v ?_; (case a => ked_read); (case b => ked_read); (case c => exact Md.shaped _); (case d => decide +kernel); (case u => ktr_units); (case v => exact rfl); k_whole)))
def opened (md : Md) (ev : Str) : Option Md :=
  cond (ev == "listen") (cond (PyData.eqv (.tuple md.pd) (.tuple [.str "closed"])) (some .listen) none) <|
  cond (ev == "connect") (cond ([PyData.tuple [.str "closed"], .tuple [.str "listen"]].any fun y => PyData.eqv y (.tuple md.pd)) (some .synSent) none) <|
  cond (ev == "syn") (cond ([PyData.tuple [.str "listen"], .tuple [.str "opening", .bool false]].any fun y => PyData.eqv y (.tuple md.pd)) (some .synRcvd) none) <|
  cond (ev == "syn ack") (cond (PyData.eqv (.tuple md.pd) (.tuple [.str "opening", .bool false])) (some .estab) none) <|
  cond (PyData.eqv (.tuple md.pd) (.tuple [.str "opening", .bool true])) (some .estab) none
set_option maxRecDepth 100000 in
set_option maxHeartbeats 0 in
theorem opened_cut (md : Md) (vs : List Value) (ra : Addr) (ev : Str) (te : Tok) (news : Led) (hv : MdIs md vs) (hm : (ra, tup vs) ∈ news) : Cut 1 98 [.ref ra, .str ev te] news (GivesMd ra news (opened md ev)) := by
  w_on
  unfold Cut
  k_fill
  intro w mean mg mb dp un gd cn cs a ccd cl outer A₀ base h₀ L m s Q E B F X N T hk hdp hun hret
  refine wpAny_call ?_
  (first | k_dflt cell_enter | fail "the def is not entered")
  k_steps
  all_goals first
      | (refine' hret _ _ _ _ ?f ?n (GivesMd.none' ?e); (case f => k_asm); (case n => exact cb_drop (by k_asm) (by kcj_all)); (case e => (unfold opened; (repeat (first | refine (cond_t (by with_reducible assumption)).trans ?_ | refine (cond_f (by with_reducible assumption)).trans ?_)); rfl)))
      | (refine' hret _ _ _ _ ?f ?n (GivesMd.some' ?e ?v (Or.inr ?fr)); (case f => k_asm); (case n => exact news_two (by k_asm) (by k_mem) (by kcj_all)); (case v => exact (by first | exact MdIs.closed _ | exact MdIs.listen _ | exact MdIs.synSent _ | exact MdIs.synRcvd _ | exact MdIs.estab _ _ _ | exact MdIs.fin1 _ _ _ | exact MdIs.fin2 _ _ _ | exact MdIs.closeW _ _ _ | exact MdIs.closing _ _ _ | exact MdIs.lastAck _ _ _ | exact MdIs.timeW _ _ _)); (case fr => exact (by first | exact fresh_all (by assumption) | exact fresh_lt (by assumption) | exact fresh_lt (And.right (by assumption)) | exact fresh_lt (And.right (And.right (by assumption))) | exact fresh_lt (And.right (And.right (And.right (by assumption)))) | exact fresh_lt (And.right (And.right (And.right (And.right (by assumption))))))); (case e => (unfold opened; (repeat (first | refine (cond_t (by with_reducible assumption)).trans ?_ | refine (cond_f (by with_reducible assumption)).trans ?_)); rfl)))
      | (refine' hret _ _ _ _ ?f ?n (GivesMd.some' ?e ?v (Or.inl ?fr)); (case f => k_asm); (case n => exact news_two (by k_asm) (by k_mem) (by kcj_all)); (case v => exact (by first | exact MdIs.closed _ | exact MdIs.listen _ | exact MdIs.synSent _ | exact MdIs.synRcvd _ | exact MdIs.estab _ _ _ | exact MdIs.fin1 _ _ _ | exact MdIs.fin2 _ _ _ | exact MdIs.closeW _ _ _ | exact MdIs.closing _ _ _ | exact MdIs.lastAck _ _ _ | exact MdIs.timeW _ _ _)); (case fr => rfl); (case e => (unfold opened; (repeat (first | refine (cond_t (by with_reducible assumption)).trans ?_ | refine (cond_f (by with_reducible assumption)).trans ?_)); rfl)))
end -- C7
section -- C8
local macro_rules | `(tactic| walk_at "PAD") => `(tactic| fail "pad")
local macro_rules | `(tactic| walk_at "PAD") => `(tactic| fail "pad")
local macro_rules | `(tactic| walk_at "PAD") => `(tactic| fail "pad")
local macro_rules | `(tactic| walk_at "PAD") => `(tactic| fail "pad")
local macro_rules | `(tactic| walk_at "PAD") => `(tactic| fail "pad")
local macro_rules | `(tactic| walk_at "PAD") => `(tactic| fail "pad")
local macro_rules | `(tactic| walk_at "PAD") => `(tactic| fail "pad")
local macro_rules | `(tactic| walk_at "PAD") => `(tactic| fail "pad")
local macro_rules | `(tactic| walk_at "PAD") => `(tactic| fail "pad")
local macro_rules | `(tactic| walk_at "PAD") => `(tactic| fail "pad")
local macro_rules | `(tactic| walk_at "PAD") => `(tactic| fail "pad")
local macro_rules | `(tactic| walk_at "PAD") => `(tactic| fail "pad")
local macro_rules | `(tactic| walk_at "PAD") => `(tactic| fail "pad")
local macro_rules | `(tactic| walk_at "PAD") => `(tactic| fail "pad")
local macro_rules | `(tactic| walk_at "PAD") => `(tactic| fail "pad")
local macro_rules | `(tactic| walk_at "PAD") => `(tactic| fail "pad")
local macro_rules | `(tactic| walk_at "PAD") => `(tactic| fail "pad")
local macro_rules | `(tactic| walk_at "PAD") => `(tactic| fail "pad")
local macro_rules | `(tactic| walk_at "PAD") => `(tactic| fail "pad")
local macro_rules | `(tactic| walk_at "PAD") => `(tactic| fail "pad")
local macro_rules | `(tactic| walk_at "PAD") => `(tactic| fail "pad")
local macro_rules | `(tactic| walk_at "PAD") => `(tactic| fail "pad")
local macro_rules | `(tactic| walk_at "PAD") => `(tactic| fail "pad")
local macro_rules | `(tactic| walk_at "PAD") => `(tactic| fail "pad")
local macro_rules | `(tactic| walk_at "PAD") => `(tactic| fail "pad")
local macro_rules | `(tactic| walk_at "PAD") => `(tactic| fail "pad")
local macro_rules | `(tactic| k_mem) => `(tactic| first | with_reducible exact List.mem_cons_self | with_reducible assumption | (refine List.mem_cons_of_mem _ ?_; k_mem))
local macro_rules | `(tactic| walk_at "compareOp In ref ref") => `(tactic| (k_here; (with_reducible show wpAny _ _ (compareOp CmpOp.In (Value.ref _) (Value.ref _)) _ _ _); k_dflt first
  | (refine' in_listB true ?a ?b ?c ?d ?e ?u ?v ?_; (case a => ked_read); (case b => ked_read); (case c => decide +kernel); (case d => decide +kernel); (case e => decide +kernel); (case u => ktr_units); (case v => decide +kernel); k_whole)
  | (refine' in_listB false ?a ?b ?c ?d ?e ?u ?v ?_; (case a => ked_read); (case b => ked_read); (case c => decide +kernel); (case d => decide +kernel); (case e => decide +kernel); (case u => ktr_units); (case v => decide +kernel); k_whole)))
local macro_rules | `(tactic| walk_at "compareOp Eq ref ref") => `(tactic| (k_here; (with_reducible show wpAny _ _ (compareOp CmpOp.Eq (Value.ref _) (Value.ref _)) _ _ _); k_dflt first
  | (refine' eq_dataB true ?a ?b ?c ?d ?u ?v ?_; (case a => ked_read); (case b => ked_read); (case c => decide +kernel); (case d => decide +kernel); (case u => ktr_units); (case v => decide +kernel); k_whole)
  | (refine' eq_dataB false ?a ?b ?c ?d ?u ?v ?_; (case a => ked_read); (case b => ked_read); (case c => decide +kernel); (case d => decide +kernel); (case u => ktr_units); (case v => decide +kernel); k_whole)))
local macro_rules | `(tactic| walk_at "subscriptTail Name Slice ref ref") => `(tactic| (k_here; (with_reducible show wpAny _ _ (subscriptTail _ (PySem.Expr.Slice _ none none _) (Value.ref _) (Value.ref _)) _ _ _); k_dflt (refine' slice_tail ?F ?N ?t ?_ ?s ?g ?z; (case F => k_asm); (case N => k_asm); (case t => exact News.isTup (by k_asm) (by k_mem)); (case s => with_unfolding_all rfl); (case g => (intro _; with_unfolding_all rfl)); (case z => size_fits); k_whole); intro D' h' F' N' l1; (try k_lt l1); (try k_sweep)))
local macro_rules | `(tactic| walk_at "ite") => `(tactic| (k_closed; first
  | (with_reducible refine' ite_pos ?hc ?_; (case hc => with_unfolding_all decide +kernel))
  | (with_reducible refine' ite_neg ?hc ?_; (case hc => with_unfolding_all decide +kernel))))
local macro_rules | `(tactic| walk_at "getItem ref str") => `(tactic| (k_here; (first
  | (with_reducible refine' getItem_tabS (x := "established") ?k1 ?k2 ?_; (case k1 => k_dflt k_tabat); (case k2 => k_dflt kernel_rfl!); k_whole)
  | (with_reducible refine' getItem_tabS (x := "fin wait 1") ?k1 ?k2 ?_; (case k1 => k_dflt k_tabat); (case k2 => k_dflt kernel_rfl!); k_whole)
  | (with_reducible refine' getItem_tabS (x := "fin wait 2") ?k1 ?k2 ?_; (case k1 => k_dflt k_tabat); (case k2 => k_dflt kernel_rfl!); k_whole)); intro _))
def tells : Md → Bool × Bool × Bool × Bool
  | .closed => (false, false, false, false)
  | .listen => (false, false, false, false)
  | .synSent => (true, false, false, false)
  | .synRcvd => (true, false, false, false)
  | .estab => (true, true, true, true)
  | .fin1 => (false, true, true, true)
  | .fin2 => (false, true, true, false)
  | .closeW => (true, false, true, true)
  | .closing => (false, false, true, true)
  | .lastAck => (false, false, true, true)
  | .timeW => (false, false, true, false)
set_option maxRecDepth 100000 in
set_option maxHeartbeats 0 in
theorem tells_cut (md : Md) (vs : List Value) (ra : Addr) (news : Led) (hv : MdIs md vs) (hm : (ra, tup vs) ∈ news) : Cut 1 140 [.ref ra] news (fun r nw => ∃ l n, r = .ref l ∧ nw = (l, W.listOf #[.bool (tells md).1, .bool (tells md).2.1, .bool (tells md).2.2.1, .bool (tells md).2.2.2] n) :: news) := by
  w_on
  unfold Cut
  k_fill
  intro w mean mg mb dp un gd cn cs a ccd cl outer A₀ base h₀ L m s Q E B F X N T hk hdp hun hret
  cases hv
  all_goals
    refine wpAny_call ?_
    (first | k_dflt cell_enter | fail "the def is not entered")
    k_steps
    all_goals exact hret _ _ _ _ (by k_asm) (news_two (by k_asm) (by k_mem) (by kcj_all)) ⟨_, _, rfl, rfl⟩
end -- C8
section -- C9
local macro_rules | `(tactic| walk_at "PAD") => `(tactic| fail "pad")
local macro_rules | `(tactic| walk_at "PAD") => `(tactic| fail "pad")
local macro_rules | `(tactic| walk_at "PAD") => `(tactic| fail "pad")
local macro_rules | `(tactic| walk_at "PAD") => `(tactic| fail "pad")
local macro_rules | `(tactic| walk_at "PAD") => `(tactic| fail "pad")
local macro_rules | `(tactic| walk_at "PAD") => `(tactic| fail "pad")
local macro_rules | `(tactic| walk_at "PAD") => `(tactic| fail "pad")
local macro_rules | `(tactic| walk_at "PAD") => `(tactic| fail "pad")
local macro_rules | `(tactic| walk_at "PAD") => `(tactic| fail "pad")
local macro_rules | `(tactic| walk_at "PAD") => `(tactic| fail "pad")
local macro_rules | `(tactic| walk_at "PAD") => `(tactic| fail "pad")
local macro_rules | `(tactic| walk_at "PAD") => `(tactic| fail "pad")
local macro_rules | `(tactic| walk_at "PAD") => `(tactic| fail "pad")
local macro_rules | `(tactic| walk_at "PAD") => `(tactic| fail "pad")
local macro_rules | `(tactic| walk_at "PAD") => `(tactic| fail "pad")
local macro_rules | `(tactic| walk_at "PAD") => `(tactic| fail "pad")
local macro_rules | `(tactic| walk_at "PAD") => `(tactic| fail "pad")
local macro_rules | `(tactic| walk_at "PAD") => `(tactic| fail "pad")
local macro_rules | `(tactic| walk_at "PAD") => `(tactic| fail "pad")
local macro_rules | `(tactic| walk_at "PAD") => `(tactic| fail "pad")
local macro_rules | `(tactic| walk_at "PAD") => `(tactic| fail "pad")
local macro_rules | `(tactic| walk_at "PAD") => `(tactic| fail "pad")
local macro_rules | `(tactic| walk_at "PAD") => `(tactic| fail "pad")
local macro_rules | `(tactic| walk_at "PAD") => `(tactic| fail "pad")
local macro_rules | `(tactic| walk_at "PAD") => `(tactic| fail "pad")
local macro_rules | `(tactic| walk_at "PAD") => `(tactic| fail "pad")
local macro_rules | `(tactic| walk_at "PAD") => `(tactic| fail "pad")
local macro_rules | `(tactic| walk_at "PAD") => `(tactic| fail "pad")
local macro_rules | `(tactic| walk_at "PAD") => `(tactic| fail "pad")
local macro_rules | `(tactic| walk_at "PAD") => `(tactic| fail "pad")
local macro_rules | `(tactic| walk_at "PAD") => `(tactic| fail "pad")
local macro_rules | `(tactic| walk_at "PAD") => `(tactic| fail "pad")
local macro_rules | `(tactic| k_mem) => `(tactic| first | with_reducible exact List.mem_cons_self | with_reducible assumption | (refine List.mem_cons_of_mem _ ?_; k_mem))
local macro_rules | `(tactic| walk_at "compareOp In ref ref") => `(tactic| (k_here; (with_reducible show wpAny _ _ (compareOp CmpOp.In (Value.ref _) (Value.ref _)) _ _ _); k_dflt first
  | (refine' in_listB true ?a ?b ?c ?d ?e ?u ?v ?_; (case a => ked_read); (case b => ked_read); (case c => decide +kernel); (case d => decide +kernel); (case e => decide +kernel); (case u => ktr_units); (case v => decide +kernel); k_whole)
  | (refine' in_listB false ?a ?b ?c ?d ?e ?u ?v ?_; (case a => ked_read); (case b => ked_read); (case c => decide +kernel); (case d => decide +kernel); (case e => decide +kernel); (case u => ktr_units); (case v => decide +kernel); k_whole)))
local macro_rules | `(tactic| walk_at "compareOp Eq ref ref") => `(tactic| (k_here; (with_reducible show wpAny _ _ (compareOp CmpOp.Eq (Value.ref _) (Value.ref _)) _ _ _); k_dflt first
  | (refine' eq_dataB true ?a ?b ?c ?d ?u ?v ?_; (case a => ked_read); (case b => ked_read); (case c => decide +kernel); (case d => decide +kernel); (case u => ktr_units); (case v => decide +kernel); k_whole)
  | (refine' eq_dataB false ?a ?b ?c ?d ?u ?v ?_; (case a => ked_read); (case b => ked_read); (case c => decide +kernel); (case d => decide +kernel); (case u => ktr_units); (case v => decide +kernel); k_whole)))
local macro_rules | `(tactic| walk_at "subscriptTail Name Slice ref ref") => `(tactic| (k_here; (with_reducible show wpAny _ _ (subscriptTail _ (PySem.Expr.Slice _ none none _) (Value.ref _) (Value.ref _)) _ _ _); k_dflt (refine' slice_tail ?F ?N ?t ?_ ?s ?g ?z; (case F => k_asm); (case N => k_asm); (case t => exact News.isTup (by k_asm) (by k_mem)); (case s => with_unfolding_all rfl); (case g => (intro _; with_unfolding_all rfl)); (case z => size_fits); k_whole); intro D' h' F' N' l1; (try k_lt l1); (try k_sweep)))
local macro_rules | `(tactic| walk_at "ite") => `(tactic| (k_closed; first
  | (with_reducible refine' ite_pos ?hc ?_; (case hc => with_unfolding_all decide +kernel))
  | (with_reducible refine' ite_neg ?hc ?_; (case hc => with_unfolding_all decide +kernel))))
local macro_rules | `(tactic| walk_at "getItem ref str") => `(tactic| (k_here; (first
  | (with_reducible refine' getItem_tabS (x := "established") ?k1 ?k2 ?_; (case k1 => k_dflt k_tabat); (case k2 => k_dflt kernel_rfl!); k_whole)
  | (with_reducible refine' getItem_tabS (x := "fin wait 1") ?k1 ?k2 ?_; (case k1 => k_dflt k_tabat); (case k2 => k_dflt kernel_rfl!); k_whole)
  | (with_reducible refine' getItem_tabS (x := "fin wait 2") ?k1 ?k2 ?_; (case k1 => k_dflt k_tabat); (case k2 => k_dflt kernel_rfl!); k_whole)); intro _))
local macro_rules | `(tactic| ked_reads) => `(tactic| exact MdIs.reads (by with_reducible assumption))
local macro_rules | `(tactic| walk_at "compareOp In ref ref") => `(tactic| (k_here; (with_reducible show wpAny _ _ (compareOp CmpOp.In (Value.ref _) (Value.ref _)) _ _ _); k_dflt (refine' in_listB _ ?a ?b ?c ?d ?e ?u ?v ?_; (case a => ked_read); (case b => ked_read); (case c => decide +kernel); (case d => exact Md.lay _); (case e => exact Md.deep _); (case u => ktr_units); (case v => exact rfl); k_whole)))
local macro_rules | `(tactic| walk_at "compareOp Eq ref ref") => `(tactic| (k_here; (with_reducible show wpAny _ _ (compareOp CmpOp.Eq (Value.ref _) (Value.ref _)) _ _ _); k_dflt (refine' eq_dataB _ ?a ?b ?c ?d ?u ?v ?_; (case a => ked_read); (case b => ked_read); (case c => exact Md.shaped _); (case d => decide +kernel); (case u => ktr_units); (case v => exact rfl); k_whole)))
local macro_rules | `(tactic| walk_at "call ref") => `(tactic| (k_here; k_dflt (refine' Cut.useS (name_cut _ _ _ _ ?v ?m) ?B ?F ?X ?N ?T ?hk ?hd ?hu ?_; (case N => k_asm); (case m => k_mem); (case v => assumption); (case B => k_asm); (case F => k_asm); (case X => k_asm); (case T => k_asm); (case hk => first | rfl | assumption); (case hd => ktr_room); (case hu => ktr_units); k_whole; intro t9' h9' tk9' F9' N9'; (try dsimp only); (try k_fold))))
def broken (md : Md) (ev : Str) : Option Md :=
  cond (PyData.eqv (.tuple md.pd) (.tuple [.str "closed"])) none <|
  cond (ev == "reset" && PyData.eqv (.tuple md.pd) (.tuple [.str "listen"])) (some md) <|
  cond (ev == "timeout" && (PyData.eqv (.tuple md.pd) (.tuple [.str "listen"]) || md.name == "time wait")) none (some .closed)
theorem and_t {a b : Bool} (h : a = true) (h2 : b = true) : (a && b) = true := by subst h; exact h2
theorem and_f1 {a b : Bool} (h : a = false) : (a && b) = false := by subst h; rfl
theorem and_f2 {a b : Bool} (h : b = false) : (a && b) = false := by subst h; cases a <;> rfl
theorem or_t1 {a b : Bool} (h : a = true) : (a || b) = true := by subst h; rfl
theorem or_t2 {a b : Bool} (h : b = true) : (a || b) = true := by subst h; cases a <;> rfl
theorem or_f {a b : Bool} (h : a = false) (h2 : b = false) : (a || b) = false := by subst h; exact h2
set_option maxRecDepth 100000 in
set_option maxHeartbeats 0 in
theorem broken_cut (md : Md) (vs : List Value) (ra : Addr) (ev : Str) (te : Tok) (news : Led) (hv : MdIs md vs) (hm : (ra, tup vs) ∈ news) : Cut 2 105 [.ref ra, .str ev te] news (GivesMd ra news (broken md ev)) := by
  w_on
  unfold Cut
  k_fill
  intro w mean mg mb dp un gd cn cs a ccd cl outer A₀ base h₀ L m s Q E B F X N T hk hdp hun hret
  refine wpAny_call ?_
  (first | k_dflt cell_enter | fail "the def is not entered")
  k_steps
  all_goals first
      | (refine' hret _ _ _ _ ?f ?n (GivesMd.none' ?e); (case f => k_asm); (case n => exact cb_drop (by k_asm) (by kcj_all)); (case e => (unfold broken; (repeat (first | refine (cond_t (by with_reducible assumption)).trans ?_ | refine (cond_f (by with_reducible assumption)).trans ?_ | refine (cond_t (and_t (by with_reducible assumption) (by first | with_reducible assumption | exact or_t1 (by with_reducible assumption) | exact or_t2 (by with_reducible assumption)))).trans ?_ | refine (cond_f (and_f1 (by with_reducible assumption))).trans ?_ | refine (cond_f (and_f2 (by first | with_reducible assumption | exact or_f (by with_reducible assumption) (by with_reducible assumption)))).trans ?_)); rfl)))
      | (refine' hret _ _ _ _ ?f ?n (GivesMd.some' ?e ?v (Or.inr ?fr)); (case f => k_asm); (case n => exact news_two (by k_asm) (by k_mem) (by kcj_all)); (case v => exact (by first | exact MdIs.closed _ | exact MdIs.listen _ | exact MdIs.synSent _ | exact MdIs.synRcvd _ | exact MdIs.estab _ _ _ | exact MdIs.fin1 _ _ _ | exact MdIs.fin2 _ _ _ | exact MdIs.closeW _ _ _ | exact MdIs.closing _ _ _ | exact MdIs.lastAck _ _ _ | exact MdIs.timeW _ _ _)); (case fr => exact (by first | exact fresh_all (by assumption) | exact fresh_lt (by assumption) | exact fresh_lt (And.right (by assumption)) | exact fresh_lt (And.right (And.right (by assumption))) | exact fresh_lt (And.right (And.right (And.right (by assumption)))) | exact fresh_lt (And.right (And.right (And.right (And.right (by assumption))))))); (case e => (unfold broken; (repeat (first | refine (cond_t (by with_reducible assumption)).trans ?_ | refine (cond_f (by with_reducible assumption)).trans ?_ | refine (cond_t (and_t (by with_reducible assumption) (by first | with_reducible assumption | exact or_t1 (by with_reducible assumption) | exact or_t2 (by with_reducible assumption)))).trans ?_ | refine (cond_f (and_f1 (by with_reducible assumption))).trans ?_ | refine (cond_f (and_f2 (by first | with_reducible assumption | exact or_f (by with_reducible assumption) (by with_reducible assumption)))).trans ?_)); rfl)))
      | (refine' hret _ _ _ _ ?f ?n (GivesMd.some' ?e ?v (Or.inl ?fr)); (case f => k_asm); (case n => exact news_two (by k_asm) (by k_mem) (by kcj_all)); (case v => assumption); (case fr => rfl); (case e => (unfold broken; (repeat (first | refine (cond_t (by with_reducible assumption)).trans ?_ | refine (cond_f (by with_reducible assumption)).trans ?_ | refine (cond_t (and_t (by with_reducible assumption) (by first | with_reducible assumption | exact or_t1 (by with_reducible assumption) | exact or_t2 (by with_reducible assumption)))).trans ?_ | refine (cond_f (and_f1 (by with_reducible assumption))).trans ?_ | refine (cond_f (and_f2 (by first | with_reducible assumption | exact or_f (by with_reducible assumption) (by with_reducible assumption)))).trans ?_)); rfl)))
end -- C9
section -- D1
open PySem PySem.Spec PySem.Calls PySem.W PyProof.Rows PyProof.V
section
variable {prog : Program} {w : World} {A : Around} {E : Value → Shared → Prop} {s : Shared} {h₀ : Heap} {L : Addr} {m : Str → Option Value}

/-- a tree that makes a key: a tuple of two strs -/
def KeyTree (prog : Program) (w : World) (A : Around) (h₀ : Heap) (L : Addr) (m : Str → Option Value) (t : Sem Value) (x c : Str) : Prop :=
  ∀ (s : Shared) (nw : Led) (Q E : Value → Shared → Prop), Fr h₀ L s.heap m → News h₀ L s.heap nw →
    (∀ h' a tx tc tk, Fr h₀ L h' m → News h₀ L h' ((a, tup [.str x tx, .str c tc]) :: nw) → Q (.ref a) { s with heap := h', toks := tk }) →
    wpAny (model prog w) A t Q E s
/-- a tree that gives a str and makes nothing -/
def ValTree (prog : Program) (w : World) (A : Around) (h₀ : Heap) (L : Addr) (m : Str → Option Value) (t : Sem Value) (y : Str) : Prop :=
  ∀ (s : Shared) (Q E : Value → Shared → Prop), Fr h₀ L s.heap m → (∀ ty, Q (.str y ty) s) → wpAny (model prog w) A t Q E s

inductive Trees (prog : Program) (w : World) (A : Around) (h₀ : Heap) (L : Addr) (m : Str → Option Value) : List (Sem Value × Sem Value) → List ((Str × Str) × Str) → Prop
  | nil : Trees prog w A h₀ L m [] []
  | cons {t u : Sem Value} {x c y : Str} {ps : List (Sem Value × Sem Value)} {D : List ((Str × Str) × Str)} : KeyTree prog w A h₀ L m t x c → ValTree prog w A h₀ L m u y → Trees prog w A h₀ L m ps D → Trees prog w A h₀ L m ((t, u) :: ps) (((x, c), y) :: D)

def enc2 (e : (Str × Str) × Str) : PyData × PyData := (encTuple PyData.str [e.1.1, e.1.2], .str e.2)

def storeTrees (d : Addr) (ps : List (Sem Value × Sem Value)) : Sem PUnit :=
  forIn ps PUnit.unit fun (x : Sem Value × Sem Value) (_ : PUnit) => (do
    let kv ← x.1
    let vv ← holding [kv] x.2
    holding [kv, vv] (dictSet d kv vv)
    pure (ForInStep.yield PUnit.unit) : Sem (ForInStep PUnit))

theorem storeTrees_ok {d : Addr} (hu : A.units < cLine) : ∀ (ps : List (Sem Value × Sem Value)) (D : List ((Str × Str) × Str)) (s : Shared) (nw : Led) (D0 : List (PyData × PyData)) (Q : PUnit → Shared → Prop),
    Trees prog w A h₀ L m ps D → Fr h₀ L s.heap m → News h₀ L s.heap nw → TupTab (PySem.strKind prog w) PyData.str nw d D0 → D0.length + D.length ≤ sizeLine →
    (∀ h' nw' tk, Fr h₀ L h' m → News h₀ L h' nw' → TupTab (PySem.strKind prog w) PyData.str nw' d (putAllT (D.map enc2) D0) → (∀ p ∈ nw, p.1 ≠ d → p ∈ nw') → Q PUnit.unit { s with heap := h', toks := tk }) →
    wpAny (model prog w) A (storeTrees d ps) Q E s := by
  intro ps
  induction ps with
  | nil =>
    intro D s nw D0 Q hT F N T hsz hQ
    cases hT
    unfold storeTrees
    rw [List.forIn_nil]
    exact wpAny_pure (hQ s.heap nw s.toks F N T fun p hp _ => hp)
  | cons x ps ih =>
    intro D s nw D0 Q hT F N T hsz hQ
    cases hT with
    | cons hk hv r =>
      rename_i t u x c y D
      rw [List.length_cons] at hsz
      unfold storeTrees
      rw [List.forIn_cons]
      refine wpAny_bind (wpAny_bind (hk s nw _ _ F N fun h₁ a tx tc tk₁ F₁ N₁ => ?_))
      refine wpAny_bind (wpAny_holding (hv _ _ _ F₁ fun ty => ?_))
      have T₁ : TupTab (PySem.strKind prog w) PyData.str ((a, tup [.str x tx, .str c tc]) :: nw) d D0 := T.cons _
      have tko : TupKeyObj (PySem.strKind prog w) [x, c] (tup [.str x tx, .str c tc]) := TupKeyObj.made (ItemsAre.cons (strKind_is _ _ _ _) (ItemsAre.cons (strKind_is _ _ _ _) ItemsAre.nil))
      refine wpAny_bind (wpAny_holding (dictSet_tupTab (hsz := by omega) same_str hu (Flat.str y ty) F₁ N₁ T₁ (.head _) tko fun h₂ nw₂ F₂ N₂ T₂ keep₂ => wpAny_pure ?_))
      refine ih D _ nw₂ _ Q r F₂ N₂ T₂ (by refine Nat.le_trans (Nat.add_le_add_right (putD_length_le _ _ _) _) ?_; omega) fun h' nw' tk' F' N' T' keep' => ?_
      exact hQ h' nw' tk' F' N' T' fun p hp hpd => keep' p (keep₂ p (.tail _ hp) hpd) hpd

theorem evalPairs_ok : ∀ (ps : List (Sem Value × Sem Value)) (D : List ((Str × Str) × Str)) (s : Shared) (nw : Led) (Q : List (Value × Value) → Shared → Prop),
    Trees prog w A h₀ L m ps D → Fr h₀ L s.heap m → News h₀ L s.heap nw →
    (∀ h' nw' vs tk, Fr h₀ L h' m → News h₀ L h' nw' → KeysIn (PySem.strKind prog w) PyData.str nw' vs (D.map enc2) → (∀ p ∈ nw, p ∈ nw') → Q vs { s with heap := h', toks := tk }) →
    wpAny (model prog w) A (evalPairs ps) Q E s := by
  intro ps
  induction ps with
  | nil =>
    intro D s nw Q hT F N hQ
    cases hT
    exact wpAny_pure (hQ s.heap nw [] s.toks F N .nil fun p hp => hp)
  | cons x ps ih =>
    intro D s nw Q hT F N hQ
    cases hT with
    | cons hk hv r =>
      rename_i t u x c y D
      unfold evalPairs
      refine wpAny_bind (hk s nw _ _ F N fun h₁ a tx tc tk₁ F₁ N₁ => ?_)
      refine wpAny_bind (wpAny_holding (hv _ _ _ F₁ fun ty => ?_))
      refine wpAny_bind (wpAny_holding (ih D _ _ _ r F₁ N₁ fun h' nw' vs tk F' N' K' sub => wpAny_pure ?_))
      have tko : TupKeyObj (PySem.strKind prog w) [x, c] (tup [.str x tx, .str c tc]) := TupKeyObj.made (ItemsAre.cons (strKind_is _ _ _ _) (ItemsAre.cons (strKind_is _ _ _ _) ItemsAre.nil))
      exact hQ h' nw' _ tk F' N' (.cons (sub _ (.head _)) tko (Flat.str y ty) K') fun p hp => sub p (.tail _ hp)

theorem subDict_long {ps : List (Sem Value × Sem Value)} {D : List ((Str × Str) × Str)} {nw : Led} {Q : Addr → Shared → Prop} (hu : A.units < cLine) (hbig : h₀.NoLimit) (hlen : ¬ ps.length ≤ 15) (hsz : D.length ≤ sizeLine)
    (hT : Trees prog w A h₀ L m ps D) (F : Fr h₀ L s.heap m) (N : News h₀ L s.heap nw)
    (hQ : ∀ d h' nw' tk, Fr h₀ L h' m → News h₀ L h' nw' → TupTab (PySem.strKind prog w) PyData.str nw' d (putAllT (D.map enc2) []) → (∀ p ∈ nw, p ∈ nw') → (∀ p ∈ nw, p.1 ≠ d) → Q d { s with heap := h', toks := tk }) :
    wpAny (model prog w) A (subDict ps) Q E s := by
  unfold subDict
  refine wpAny_bind (wpAny_alloc ?_)
  refine wpAny_bind (wpAny_holding ?_)
  rw [if_neg hlen]
  refine wpAny_bind (wpAny_rule ?_)
  have hne : ∀ p ∈ nw, p.1 ≠ s.heap.objs.size := fun p hp => Nat.ne_of_lt (Heap.lt_size (N p hp).1)
  have N₁ := News.push F N { cls := .type "dict", data := .dict #[] }
  have F₁ := F.push { cls := .type "dict", data := .dict #[] }
  obtain ⟨o, ho, hd⟩ := Heap.dictOf_iff.mp (Heap.DictOf.new (knd := PySem.strKind prog w) s.heap)
  rw [Heap.get?_push_size _ rfl] at ho
  have T₁ : TupTab (PySem.strKind prog w) PyData.str ((s.heap.objs.size, { cls := .type "dict", data := .dict #[] }) :: nw) s.heap.objs.size [] :=
    TupTab.ofEmpty (.head _) (F.notModules (modules_low hbig)) ((Option.some.inj ho) ▸ hd)
  have := storeTrees_ok (d := s.heap.objs.size) (E := E) hu ps D { s with heap := s.heap.push { cls := .type "dict", data := .dict #[] } } _ [] (fun _ s₂ => wpAny (model prog w) A (pure s.heap.objs.size) Q E s₂) hT F₁ N₁ T₁ (by simpa using hsz)
    (fun h' nw' tk F' N' T' keep => wpAny_pure (hQ _ h' nw' tk F' N' T' (fun p hp => keep p (.tail _ hp) (hne p hp)) hne))
  exact wpAny_bind (wpAny_mono this (fun _ s₂ q => wpAny_pure q) fun _ _ e => e)

theorem subDict_short {ps : List (Sem Value × Sem Value)} {D : List ((Str × Str) × Str)} {nw : Led} {Q : Addr → Shared → Prop} (hu : A.units < cLine) (hbig : h₀.NoLimit) (hlen : ps.length ≤ 15) (hsz : D.length ≤ sizeLine)
    (hT : Trees prog w A h₀ L m ps D) (F : Fr h₀ L s.heap m) (N : News h₀ L s.heap nw)
    (hQ : ∀ d h' nw' tk, Fr h₀ L h' m → News h₀ L h' nw' → TupTab (PySem.strKind prog w) PyData.str nw' d (putAllT (D.map enc2) []) → (∀ p ∈ nw, p ∈ nw') → (∀ p ∈ nw, p.1 ≠ d) → Q d { s with heap := h', toks := tk }) :
    wpAny (model prog w) A (subDict ps) Q E s := by
  refine wpAny_subDict_any hlen ?_
  have hne : ∀ p ∈ nw, p.1 ≠ s.heap.objs.size := fun p hp => Nat.ne_of_lt (Heap.lt_size (N p hp).1)
  have N₁ := News.push F N { cls := .type "dict", data := .dict #[] }
  have F₁ := F.push { cls := .type "dict", data := .dict #[] }
  obtain ⟨o, ho, hd⟩ := Heap.dictOf_iff.mp (Heap.DictOf.new (knd := PySem.strKind prog w) s.heap)
  rw [Heap.get?_push_size _ rfl] at ho
  have hd' : ({ cls := .type "dict", data := .dict #[] } : Obj).IsDictOf (PySem.strKind prog w) [] := (Option.some.inj ho) ▸ hd
  refine evalPairs_ok ps D _ _ _ hT F₁ N₁ fun h₁ nw₁ vs tk F₂ N₂ K₂ sub => ?_
  have T₂ : TupTab (PySem.strKind prog w) PyData.str nw₁ s.heap.objs.size [] := TupTab.ofEmpty (sub _ (.head _)) (F.notModules (modules_low hbig)) hd'
  refine storeAll_tupTab same_str hu vs _ nw₁ [] _ _ F₂ N₂ T₂ K₂ (by simpa using hsz) fun h' nw' tk' F' N' T' keep => ?_
  exact hQ _ h' nw' tk' F' N' T' (fun p hp => keep p (sub p (.tail _ hp)) (hne p hp)) hne
end
end -- D1
section -- D2
open PySem PySem.Spec PySem.Calls PySem.W PyProof.Rows PyProof.V
theorem flat_one {K : Type} {enc : K → PyData} {kvs : List (K × Value)} {p dv : PyData} (h : FlatPairs enc kvs [(p, dv)]) : ∃ k v, kvs = [(k, v)] ∧ enc k = p ∧ Flat v dv := by
  generalize hD : [(p, dv)] = D at h
  cases h with
  | nil => cases hD
  | cons hf r =>
    injection hD with h1 h2
    injection h1 with h3 h4
    subst h2
    cases r
    exact ⟨_, _, rfl, h3.symm, h4 ▸ hf⟩

section
variable {prog : Program} {w : World} {A : Around} {E : Value → Shared → Prop} {s : Shared} {h₀ : Heap} {L : Addr} {m : Str → Option Value}

theorem dictPut_new {K : Type} [DecidableEq K] {knd : HeapKind prog w K} {d a : Addr} {k : K} {v : Value} {xs : List (K × Addr × Value)} {Q : Unit → Shared → Prop} (hu : knd.room A) (hkey : knd.is s.heap k a) (hm : s.heap.DictOfH knd d xs) (hnew : atKey xs k = none)
    (hQ : ∀ h', h'.DictOfH knd d (xs ++ [(k, a, v)]) → Heap.SameBut d s.heap h' → Q () { s with heap := h' }) (hsz : xs.length ≤ sizeLine) :
    wpAny (model prog w) A (dictPut d (knd.hash k) (.ref a) v) Q E s := by
  obtain ⟨o, es, ep, ho, hc, hd, he, his, hn⟩ := hm
  unfold dictPut
  refine wpAny_bind (wpAny_dictFind_heap hu hkey ho hd he his hn (fun hno => ?_) (fun j p hj => ?_))
  · have hnot : k ∉ xs.map (·.1) := not_mem_keys_of_get hno
    refine wpAny_updateDictKeys (hz := by have e := size_of_entries he; omega) ho hd (hQ _ ⟨_, _, ep + 1, Heap.get?_update_self _ ho (Obj.isFreed_of_dict (Obj.data_mapDictKeys hd _)),
      hc.mapDictKeys _, Obj.data_mapDictKeys hd _, by simp [he, entryOfKey], fun x hx => ?_, ?_⟩ (Heap.SameBut.update ..))
    · rcases List.mem_append.mp hx with hx | hx
      · exact knd.keeps (his x hx) ho hd (Heap.SameBut.update ..)
      · simp only [List.mem_singleton] at hx
        subst hx
        exact knd.keeps hkey ho hd (Heap.SameBut.update ..)
    · rw [List.map_append, List.nodup_append]
      refine ⟨hn, by simp, fun x hx y hy => ?_⟩
      simp only [List.map_cons, List.map_nil, List.mem_singleton] at hy
      subst hy
      exact fun e => hnot (e ▸ hx)
  · rw [atKey_of_get hn hj] at hnew
    cases hnew

/-- a table of one pair merged into another that lacks its key -/
theorem mergeOne {d d2 : Addr} {nw : Led} {D0 : List (PyData × PyData)} {ks : List Str} {y : Str} {Q : Unit → Shared → Prop} (hu : A.units < cLine) (hne : d2 ≠ d) (h0 : D0 ≠ []) (hl : lookup (encTuple PyData.str ks) D0 = none) (hsz : D0.length ≤ sizeLine)
    (F : Fr h₀ L s.heap m) (N : News h₀ L s.heap nw) (T : TupTab (PySem.strKind prog w) PyData.str nw d D0) (T2 : TupTab (PySem.strKind prog w) PyData.str nw d2 [(encTuple PyData.str ks, .str y)])
    (h : ∀ h' nw', Fr h₀ L h' m → News h₀ L h' nw' → TupTab (PySem.strKind prog w) PyData.str nw' d (D0 ++ [(encTuple PyData.str ks, .str y)]) → (∀ p ∈ nw, p.1 ≠ d → p ∈ nw') → Q () { s with heap := h' }) :
    wpAny (model prog w) A (mergeMapping d (.ref d2) false) Q E s := by
  have kn : ∀ {b : Addr} {ob : Obj} {ks' : List Str}, (b, ob) ∈ nw → TupKeyObj (PySem.strKind prog w) ks' ob → b ≠ d := fun hb t => T.key_ne N hb t
  obtain ⟨lo, o, es, ep, xs, hm, hc, hd, he, hn, hk, hf⟩ := T
  obtain ⟨lo2, o2, es2, ep2, xs2, hm2, hc2, hd2, he2, hn2, hk2, hf2⟩ := T2
  obtain ⟨ks', v, hx2, hke, hfl⟩ := flat_one hf2
  have hkk : ks' = ks := by
    have := same_encTuple same_str ks' ks
    rw [hke, same_encTuple same_str ks ks, decide_eq_true rfl] at this
    exact of_decide_eq_true this.symm
  subst hkk
  obtain ⟨a, hxs2⟩ : ∃ a, xs2 = [(ks', a, v)] := by
    cases xs2 with
    | nil => simp [kvsOf] at hx2
    | cons x r =>
      cases r with
      | cons _ _ => simp [kvsOf] at hx2
      | nil =>
        simp only [kvsOf, List.map_cons, List.map_nil, List.cons.injEq, and_true, Prod.mk.injEq] at hx2
        exact ⟨x.2.1, by rw [← hx2.1, ← hx2.2]⟩
  subst hxs2
  obtain ⟨ok, hmk, tk⟩ := hk2 _ (.head _)
  dsimp only at hmk tk
  have hT2 : s.TypeIs (.ref d2) "dict" := ⟨o2, N.get hm2, hc2.1⟩
  have hne0 : es.isEmpty = false := by
    have e1 := hf.length
    have e2 : es.toList.length = xs.length := by rw [he, List.length_map]
    simp only [kvsOf, List.length_map] at e1
    cases hD : D0 with
    | nil => exact absurd hD h0
    | cons p r =>
      rw [hD, List.length_cons] at e1
      rw [Array.isEmpty_eq_false_iff]
      intro q
      rw [q] at e2
      simp at e2
      omega
  have hes2 : es2.toList = [entryOfKey (tupleKind (PySem.strKind prog w)) (ks', a, v)] := by rw [he2]; rfl
  have hsz2 : es2.size = 1 := by rw [← Array.length_toList, hes2]; rfl
  have hget : es2[0]? = some (entryOfKey (tupleKind (PySem.strKind prog w)) (ks', a, v)) := by rw [← Array.getElem?_toList, hes2]; rfl
  have hxs : xs.length ≤ sizeLine := by have e := hf.length; simp only [kvsOf, List.length_map] at e; omega
  have hnew : atKey xs ks' = none := by
    have hv := hf.none_of_lookup (same_encTuple same_str) hl
    rw [valueAt_kvsOf] at hv
    cases hq : atKey xs ks' with
    | none => rfl
    | some p => rw [hq] at hv; cases hv
  have hD : s.heap.DictOfH (tupleKind (PySem.strKind prog w)) d xs := ⟨o, es, ep, N.get hm, hc, hd, he, fun x hx => let ⟨_, hmk, t⟩ := hk x hx; t.key (N.get hmk), hn⟩
  unfold mergeMapping
  refine wpAny_bind (wpAny_isInstance hT2 isSubtype_dict_dict ?_)
  simp only [if_true]
  refine wpAny_bind (wpAny_specialOf hT2 PySem.F.slot_dict_iter.lookup ?_)
  refine wpAny_bind (wpAny_pure ?_)
  simp only [beq_self_eq_true]
  rw [if_neg (by rw [lo2]; exact Bool.false_ne_true)]
  refine wpAny_bind (wpAny_dictEntries (N.get hm) hd ?_)
  rw [hne0]
  simp only [Bool.false_eq_true, if_false]
  refine wpAny_bind (wpAny_dictEntries (N.get hm2) hd2 ?_)
  rw [hsz2]
  refine wpAny_bind (wpAny_dictEpoch (N.get hm2) hd2 ?_)
  show wpAny _ _ (forIn [0] PUnit.unit _ >>= _) _ _ _
  rw [List.forIn_cons]
  refine wpAny_bind (wpAny_bind ?_)
  refine wpAny_bind (wpAny_dictEntries (N.get hm2) hd2 ?_)
  rw [hget]
  dsimp only
  refine wpAny_bind (wpAny_holding ?_)
  refine dictPut_new (knd := tupleKind (PySem.strKind prog w)) hu (tk.key (N.get hmk)) hD hnew (fun h' hm' hs => ?_) hxs
  have hg2 : h'.get? d2 = some o2 := (hs.2 d2 hne).trans (N.get hm2)
  refine wpAny_bind (wpAny_dictEpoch (s := { s with heap := h' }) hg2 hd2 ?_)
  rw [if_neg (by simp)]
  refine wpAny_pure ?_
  dsimp only
  rw [List.forIn_nil]
  refine wpAny_pure (wpAny_pure ?_)
  obtain ⟨o', es', ep', ho', hc', hd', he', _, hn'⟩ := hm'
  have keep : ∀ p ∈ nw, p.1 ≠ d → p ∈ nw.map fun p => if p.1 = d then (d, o') else p := fun p hp hpd => List.mem_map.mpr ⟨p, hp, by simp [hpd]⟩
  refine h h' (nw.map fun p => if p.1 = d then (d, o') else p) (F.change hs (N _ hm).2.1 (N.fresh hm)) (N.replace hs ho')
    ⟨lo, o', es', ep', xs ++ [(ks', a, v)], List.mem_map.mpr ⟨(d, o), hm, by simp⟩, hc', hd', he', hn', fun x hx => ?_, ?_⟩ keep
  · rcases List.mem_append.mp hx with hx | hx
    · obtain ⟨oky, hmky, t⟩ := hk x hx
      exact ⟨oky, keep _ hmky (kn hmky t), t⟩
    · simp only [List.mem_singleton] at hx
      subst hx
      exact ⟨ok, keep _ hmk (kn hmk tk), tk⟩
  · have e : kvsOf (xs ++ [(ks', a, v)]) = kvsOf xs ++ kvsOf [(ks', a, v)] := by simp [kvsOf]
    rw [e]
    have app : ∀ {as bs : List (List Str × Value)} {D1 D2 : List (PyData × PyData)}, FlatPairs (encTuple PyData.str) as D1 → FlatPairs (encTuple PyData.str) bs D2 → FlatPairs (encTuple PyData.str) (as ++ bs) (D1 ++ D2) := by
      intro as bs D1 D2 h1 h2
      induction h1 with
      | nil => exact h2
      | cons hf _ ih => exact .cons hf ih
    exact app hf hf2
end
end -- D2
section -- D3
open PySem PySem.Spec PySem.Calls PySem.W PyProof.Rows PyProof.V
theorem display18 (a1 a2 a3 a4 a5 a6 a7 a8 a9 a10 a11 a12 a13 a14 a15 a16 a17 b : Sem Value × Sem Value) :
    dictDisplay ([a1, a2, a3, a4, a5, a6, a7, a8, a9, a10, a11, a12, a13, a14, a15, a16, a17, b].map fun p => (some p.1, p.2)) = (do
      let d ← subDict [a1, a2, a3, a4, a5, a6, a7, a8, a9, a10, a11, a12, a13, a14, a15, a16, a17]
      let sub ← holding [.ref d] (subDict [b])
      (holding [.ref d, .ref sub] (mergeMapping d (.ref sub) false)).onRaise fun x => do let _ ← holding [.ref d, x] (runValue (.builtin "proto.let_go" {}))
      pure (.ref d)) := by
  unfold dictDisplay
  dsimp only
  simp only [List.map_cons, List.map_nil, List.forIn_cons, List.forIn_nil, List.nil_append, List.cons_append, List.length_cons, List.length_nil, List.isEmpty, pure_bind, bind_assoc]
  simp

theorem display_long : ∀ (l : List (Sem Value × Sem Value)), l.length = 18 → dictDisplay (l.map fun p => (some p.1, p.2)) = (do
      let d ← subDict (l.take 17)
      let sub ← holding [.ref d] (subDict (l.drop 17))
      (holding [.ref d, .ref sub] (mergeMapping d (.ref sub) false)).onRaise fun x => do let _ ← holding [.ref d, x] (runValue (.builtin "proto.let_go" {}))
      pure (.ref d))
  | [a1, a2, a3, a4, a5, a6, a7, a8, a9, a10, a11, a12, a13, a14, a15, a16, a17, b], _ => display18 a1 a2 a3 a4 a5 a6 a7 a8 a9 a10 a11 a12 a13 a14 a15 a16 a17 b

inductive RowsOk (K : Frag) (env : Env) : List (Option PySem.Expr) → List PySem.Expr → List ((Str × Str) × Str) → Prop
  | nil : RowsOk K env [] [] []
  | cons {X Y c x y : Str} {p1 p2 p3 p4 : Pos} {k2 k3 : Nat} {t u : Tok} {ks : List (Option PySem.Expr)} {vs : List PySem.Expr} {D : List ((Str × Str) × Str)} :
      nsIn K mainGlobals X = some (some (.str x t)) → nsIn K mainGlobals Y = some (some (.str y u)) → (env.kindOf X = some .globalImplicit ∧ (X == ("__debug__" : Str)) = false ∧ env.kindOf Y = some .globalImplicit ∧ (Y == ("__debug__" : Str)) = false) →
      RowsOk K env ks vs D → RowsOk K env (some (.Tuple [.Name X p1, .Constant (.str c) k2 p2] k3 p3) :: ks) (.Name Y p4 :: vs) (((x, c), y) :: D)

section
variable {prog : Program} {w : World} {A : Around} {E : Value → Shared → Prop} {s : Shared} {h₀ : Heap} {L a : Addr} {m mg mb : Str → Option Value} {K : Frag} {cn : Str} {cs : Scope} {cd : Value} {p : Program} {loose : List Str} {keys : List (Option PySem.Expr)} {values : List PySem.Expr} {D : List ((Str × Str) × Str)} {pos : Pos}
theorem RowsOk.shape {env : Env} (R : RowsOk K env keys values D) : keys.all (·.isSome) = true ∧ keys.length = values.length ∧ D.length = keys.length := by
  induction R with
  | nil => exact ⟨rfl, rfl, rfl⟩
  | cons _ _ _ _ ih => exact ⟨by rw [List.all_cons, ih.1]; rfl, by rw [List.length_cons, List.length_cons, ih.2.1], by rw [List.length_cons, List.length_cons, ih.2.2]⟩
theorem trees_of (X : K.In h₀) (T : TopRead p loose mg mb h₀) (hk : cs.kind = .function) (R : RowsOk K (envOf cn cs L a cd) keys values D) : Trees prog w A h₀ L m (pairTrees keys values (envOf cn cs L a cd) pos) D := by
  induction R with
  | nil => exact .nil
  | cons e1 e2 g _ ih =>
    refine .cons (fun s nw Q E F N hQ => ?_) (fun s Q E F hQ => ?_) ih
    · exact Tuple_ (spliced_more (name_K F X T e1 (spliced_more (Calls.Constant_str (spliced_none (newTuple_N F N (fun h' F' N' => hQ h' _ _ _ _ F' N') (by show 2 ≤ sizeLine; decide))))) hk g.1 g.2.1))
    · exact wpAny_bind (name_K F X T e2 (wpAny_bind (wpAny_standAt (wpAny_pure (hQ _)))) hk g.2.2.1 g.2.2.2)

theorem Trees.take {ps : List (Sem Value × Sem Value)} {D : List ((Str × Str) × Str)} (n : Nat) (h : Trees prog w A h₀ L m ps D) : Trees prog w A h₀ L m (ps.take n) (D.take n) := by
  induction h generalizing n with
  | nil => cases n <;> exact .nil
  | cons a b _ ih =>
    cases n with
    | zero => exact .nil
    | succ n => exact .cons a b (ih n)
theorem Trees.drop {ps : List (Sem Value × Sem Value)} {D : List ((Str × Str) × Str)} (n : Nat) (h : Trees prog w A h₀ L m ps D) : Trees prog w A h₀ L m (ps.drop n) (D.drop n) := by
  induction h generalizing n with
  | nil => cases n <;> exact .nil
  | cons a b r ih =>
    cases n with
    | zero => exact .cons a b r
    | succ n => exact ih n

theorem dict_small {nw : Led} {Q : Value → Shared → Prop} (X : K.In h₀) (T : TopRead p loose mg mb h₀) (hk : cs.kind = .function) (R : RowsOk K (envOf cn cs L a cd) keys values D) (hu : A.units < cLine) (F : Fr h₀ L s.heap m) (N : News h₀ L s.heap nw)
    (hlen : keys.length ≤ 15) (h0 : keys ≠ []) (hD : putAllT (D.map enc2) [] = D.map enc2)
    (hQ : ∀ d h' nw' tk, Fr h₀ L h' m → News h₀ L h' nw' → TupTab (PySem.strKind prog w) PyData.str nw' d (D.map enc2) → (∀ p ∈ nw, p ∈ nw') → Q (.ref d) { s with heap := h', toks := tk }) :
    wpAny (model prog w) A (eval (.Dict keys values pos) (envOf cn cs L a cd)) Q E s := by
  obtain ⟨hall, hl, hDl⟩ := R.shape
  have hn := pairTrees_length keys values (envOf cn cs L a cd) pos hall hl
  have hp0 : pairTrees keys values (envOf cn cs L a cd) pos ≠ [] := by
    intro he
    rw [he] at hn
    exact h0 (List.length_eq_zero_iff.mp hn.symm)
  rw [arm_eval_Dict, zip_pairTrees keys values _ pos hall hl, dictDisplay_pairs _ hp0 (by rw [hn]; omega)]
  refine wpAny_bind (wpAny_standAt (wpAny_bind (subDict_short hu T.nolimit (by rw [hn]; exact hlen) (by rw [sizeLine_eq]; omega) (trees_of X T hk R) F N fun d h' nw' tk F' N' T' sub ne => wpAny_pure ?_)))
  rw [hD] at T'
  exact hQ d h' nw' tk F' N' T' sub

theorem dict_long {nw : Led} {Q : Value → Shared → Prop} {x c y : Str} (X : K.In h₀) (T : TopRead p loose mg mb h₀) (hk : cs.kind = .function) (R : RowsOk K (envOf cn cs L a cd) keys values D) (hu : A.units < cLine) (F : Fr h₀ L s.heap m) (N : News h₀ L s.heap nw)
    (hlen : keys.length = 18) (hD : putAllT ((D.take 17).map enc2) [] = (D.take 17).map enc2) (hl1 : D.drop 17 = [((x, c), y)]) (hnone : lookup (encTuple PyData.str [x, c]) ((D.take 17).map enc2) = none)
    (hQ : ∀ d h' nw' tk, Fr h₀ L h' m → News h₀ L h' nw' → TupTab (PySem.strKind prog w) PyData.str nw' d (D.map enc2) → (∀ p ∈ nw, p ∈ nw') → Q (.ref d) { s with heap := h', toks := tk }) :
    wpAny (model prog w) A (eval (.Dict keys values pos) (envOf cn cs L a cd)) Q E s := by
  obtain ⟨hall, hl, hDl⟩ := R.shape
  have hn := pairTrees_length keys values (envOf cn cs L a cd) pos hall hl
  have ht := trees_of (prog := prog) (w := w) (A := A) (m := m) (pos := pos) X T hk R
  have htk : (D.take 17).length = 17 := by rw [List.length_take]; omega
  rw [arm_eval_Dict, zip_pairTrees keys values _ pos hall hl, display_long _ (by rw [hn]; exact hlen)]
  refine wpAny_bind (wpAny_standAt (wpAny_bind (subDict_long hu T.nolimit (by rw [List.length_take, hn, hlen]; decide) (by rw [sizeLine_eq]; omega) (ht.take 17) F N fun d h₁ nw₁ tk₁ F₁ N₁ T₁ sub₁ ne₁ => ?_)))
  rw [hD] at T₁
  have hdm : ∃ o, (d, o) ∈ nw₁ := by
    obtain ⟨_, o, _, _, _, hm, _⟩ := T₁
    exact ⟨o, hm⟩
  obtain ⟨od, hod⟩ := hdm
  refine wpAny_bind (wpAny_holding (subDict_short (s := { s with heap := h₁, toks := tk₁ }) hu T.nolimit (by rw [List.length_drop, hn, hlen]; decide) (by rw [sizeLine_eq, hl1]; show 1 ≤ 16777216; decide) (ht.drop 17) F₁ N₁ fun d2 h₂ nw₂ tk₂ F₂ N₂ T₂ sub₂ ne₂ => ?_))
  have hne : d2 ≠ d := fun e => ne₂ _ hod e.symm
  have T₁' : TupTab (PySem.strKind prog w) PyData.str nw₂ d ((D.take 17).map enc2) := by
    obtain ⟨lo, o, es, ep, xs, hm, hc, hd, he, hn, hk, hf⟩ := T₁
    exact ⟨lo, o, es, ep, xs, sub₂ _ hm, hc, hd, he, hn, fun x hx => let ⟨okx, hmk, t⟩ := hk x hx; ⟨okx, sub₂ _ hmk, t⟩, hf⟩
  have e2 : putAllT ((D.drop 17).map enc2) [] = [(encTuple PyData.str [x, c], .str y)] := by rw [hl1]; rfl
  rw [e2] at T₂
  refine wpAny_bind (wpAny_onRaise (wpAny_holding (mergeOne (s := { s with heap := h₂, toks := tk₂ }) hu hne (fun q => by have := congrArg List.length q; rw [List.length_map, htk] at this; exact absurd this (by decide)) hnone (by rw [List.length_map, htk, sizeLine_eq]; decide) F₂ N₂ T₁' T₂ fun h₃ nw₃ F₃ N₃ T₃ keep => wpAny_pure ?_)))
  have e3 : (D.take 17).map enc2 ++ [(encTuple PyData.str [x, c], .str y)] = D.map enc2 := by
    have h := congrArg (List.map enc2) (List.take_append_drop 17 D)
    rw [List.map_append, hl1] at h
    exact h
  rw [e3] at T₃
  exact hQ d h₃ nw₃ tk₂ F₃ N₃ T₃ fun p hp => keep p (sub₂ p (sub₁ p hp)) (ne₁ p hp)
end

/-- what a table of rows says of a state and an event -/
def look (D : List ((Str × Str) × Str)) (st ev : Str) : Option Str := (D.find? fun e => decide (([e.1.1, e.1.2] : List Str) = [st, ev])).map (·.2)
theorem lookup_rows (st ev : Str) : ∀ D : List ((Str × Str) × Str), lookup (encTuple PyData.str [st, ev]) (D.map enc2) = (look D st ev).map PyData.str
  | [] => rfl
  | e :: D => by
    have ih := lookup_rows st ev D
    unfold look at ih ⊢
    show (if same (encTuple PyData.str [e.1.1, e.1.2]) (encTuple PyData.str [st, ev]) = true then some (PyData.str e.2) else lookup (encTuple PyData.str [st, ev]) (D.map enc2)) = _
    rw [same_encTuple same_str, ih, List.find?_cons]
    by_cases h : ([e.1.1, e.1.2] : List Str) = [st, ev]
    · simp [h]
    · simp only [h, decide_false, Bool.false_eq_true, if_false]
theorem get_rows {prog : Program} {w : World} {A : Around} {E : Value → Shared → Prop} {s : Shared} {h₀ : Heap} {L d a : Addr} {nw : Led} {D : List ((Str × Str) × Str)} {st ev : Str} {ts te : Tok} {Q : Value → Shared → Prop} (hu : A.units + 1 < cLine) (N : News h₀ L s.heap nw)
    (T : TupTab (PySem.strKind prog w) PyData.str nw d (D.map enc2)) (hka : (a, tup [.str st ts, .str ev te]) ∈ nw)
    (h0 : look D st ev = none → ∀ tk, Q .none { s with toks := tk }) (h1 : ∀ y t tk, look D st ev = some y → Q (.str y t) { s with toks := tk }) : wpAny (model prog w) A (call (.builtin "dict.get") [.ref d, .ref a]) Q E s := by
  refine call_get1_tupTab (knd := PySem.strKind prog w) (enc := PyData.str) (ks := [st, ev]) same_str hu N T hka (TupKeyObj.made (ItemsAre.cons (strKind_is _ _ _ _) (ItemsAre.cons (strKind_is _ _ _ _) ItemsAre.nil))) fun v hv => ?_
  rw [lookup_rows] at hv
  cases hl : look D st ev with
  | none =>
    rw [hl] at hv
    rw [Flat.none_inv hv]
    exact h0 hl _
  | some y =>
    rw [hl] at hv
    obtain ⟨t, e⟩ := Flat.str_inv hv
    rw [e]
    exact h1 y t _ hl
end -- D3
section -- D4
open PySem PySem.Spec PySem.Calls PySem.W PyProof.Rows PyProof.V
def openD : List ((Str × Str) × Str) := [(("closed", "listen"), "listen"), (("closed", "connect"), "syn sent"), (("listen", "connect"), "syn sent"), (("listen", "syn"), "syn received"), (("syn sent", "syn"), "syn received"), (("syn sent", "syn ack"), "established"), (("syn received", "ack of syn"), "established")]
def closeD : List ((Str × Str) × Str) := [(("listen", "close"), "closed"), (("syn sent", "close"), "closed"), (("syn received", "close"), "fin wait 1"), (("established", "close"), "fin wait 1"), (("close wait", "close"), "last ack"), (("syn received", "fin"), "close wait"), (("established", "fin"), "close wait"), (("fin wait 1", "fin"), "closing"), (("fin wait 2", "fin"), "time wait"), (("close wait", "fin"), "close wait"), (("closing", "fin"), "closing"), (("last ack", "fin"), "last ack"), (("time wait", "fin"), "time wait"), (("fin wait 1", "ack of fin"), "fin wait 2"), (("closing", "ack of fin"), "time wait"), (("last ack", "ack of fin"), "closed"), (("fin wait 1", "fin and ack of fin"), "time wait"), (("time wait", "time wait over"), "closed")]

theorem open_nodup : putAllT (openD.map enc2) [] = openD.map enc2 := by kernel_rfl!
theorem close_nodup : putAllT ((closeD.take 17).map enc2) [] = (closeD.take 17).map enc2 := by kernel_rfl!
theorem close_last : closeD.drop 17 = ([(("time wait", "time wait over"), "closed")] : List ((Str × Str) × Str)) := by kernel_rfl!
theorem close_new : lookup (encTuple PyData.str ["time wait", "time wait over"]) ((closeD.take 17).map enc2) = none := by kernel_rfl!
section
variable {prog : Program} {w : World} {A : Around} {E : Value → Shared → Prop} {s : Shared} {h₀ : Heap} {L a : Addr} {m mg mb : Str → Option Value} {K : Frag} {cn : Str} {cs : Scope} {cd : Value} {p : Program} {loose : List Str} {keys : List (Option PySem.Expr)} {values : List PySem.Expr} {pos : Pos}
theorem dict_open' {nw : Led} {Q : Value → Shared → Prop} (hl : keys.length = 7) (X : K.In h₀) (T : TopRead p loose mg mb h₀) (hk : cs.kind = .function) (R : RowsOk K (envOf cn cs L a cd) keys values openD) (hu : A.units < cLine) (F : Fr h₀ L s.heap m) (N : News h₀ L s.heap nw)
    (hQ : ∀ d h' nw' tk, Fr h₀ L h' m → News h₀ L h' nw' → TupTab (PySem.strKind prog w) PyData.str nw' d (openD.map enc2) → (∀ p ∈ nw, p ∈ nw') → Q (.ref d) { s with heap := h', toks := tk }) :
    wpAny (model prog w) A (eval (.Dict keys values pos) (envOf cn cs L a cd)) Q E s := by
  exact dict_small X T hk R hu F N (by omega) (fun q => by rw [q] at hl; cases hl) open_nodup hQ
theorem dict_close' {nw : Led} {Q : Value → Shared → Prop} (X : K.In h₀) (T : TopRead p loose mg mb h₀) (hk : cs.kind = .function) (R : RowsOk K (envOf cn cs L a cd) keys values closeD) (hu : A.units < cLine) (F : Fr h₀ L s.heap m) (N : News h₀ L s.heap nw)
    (hQ : ∀ d h' nw' tk, Fr h₀ L h' m → News h₀ L h' nw' → TupTab (PySem.strKind prog w) PyData.str nw' d (closeD.map enc2) → (∀ p ∈ nw, p ∈ nw') → Q (.ref d) { s with heap := h', toks := tk }) :
    wpAny (model prog w) A (eval (.Dict keys values pos) (envOf cn cs L a cd)) Q E s :=
  dict_long X T hk R hu F N R.shape.2.2.symm close_nodup close_last close_new hQ
end
end -- D4
section -- F1
local macro_rules | `(tactic| walk_at "PAD") => `(tactic| fail "pad")
local macro_rules | `(tactic| walk_at "PAD") => `(tactic| fail "pad")
local macro_rules | `(tactic| walk_at "PAD") => `(tactic| fail "pad")
local macro_rules | `(tactic| walk_at "PAD") => `(tactic| fail "pad")
local macro_rules | `(tactic| walk_at "PAD") => `(tactic| fail "pad")
local macro_rules | `(tactic| walk_at "PAD") => `(tactic| fail "pad")
local macro_rules | `(tactic| walk_at "PAD") => `(tactic| fail "pad")
local macro_rules | `(tactic| walk_at "PAD") => `(tactic| fail "pad")
local macro_rules | `(tactic| walk_at "PAD") => `(tactic| fail "pad")
local macro_rules | `(tactic| walk_at "PAD") => `(tactic| fail "pad")
local macro_rules | `(tactic| walk_at "PAD") => `(tactic| fail "pad")
local macro_rules | `(tactic| walk_at "PAD") => `(tactic| fail "pad")
local macro_rules | `(tactic| walk_at "PAD") => `(tactic| fail "pad")
local macro_rules | `(tactic| walk_at "PAD") => `(tactic| fail "pad")
local macro_rules | `(tactic| walk_at "PAD") => `(tactic| fail "pad")
local macro_rules | `(tactic| walk_at "PAD") => `(tactic| fail "pad")
local macro_rules | `(tactic| walk_at "PAD") => `(tactic| fail "pad")
local macro_rules | `(tactic| walk_at "PAD") => `(tactic| fail "pad")
local macro_rules | `(tactic| walk_at "PAD") => `(tactic| fail "pad")
local macro_rules | `(tactic| walk_at "PAD") => `(tactic| fail "pad")
local macro_rules | `(tactic| walk_at "PAD") => `(tactic| fail "pad")
local macro_rules | `(tactic| walk_at "PAD") => `(tactic| fail "pad")
local macro_rules | `(tactic| walk_at "PAD") => `(tactic| fail "pad")
local macro_rules | `(tactic| walk_at "PAD") => `(tactic| fail "pad")
local macro_rules | `(tactic| walk_at "PAD") => `(tactic| fail "pad")
local macro_rules | `(tactic| walk_at "PAD") => `(tactic| fail "pad")
local macro_rules | `(tactic| walk_at "PAD") => `(tactic| fail "pad")
local macro_rules | `(tactic| walk_at "PAD") => `(tactic| fail "pad")
local macro_rules | `(tactic| walk_at "PAD") => `(tactic| fail "pad")
local macro_rules | `(tactic| walk_at "PAD") => `(tactic| fail "pad")
local macro_rules | `(tactic| walk_at "PAD") => `(tactic| fail "pad")
local macro_rules | `(tactic| walk_at "PAD") => `(tactic| fail "pad")
local macro_rules | `(tactic| walk_at "PAD") => `(tactic| fail "pad")
local macro_rules | `(tactic| walk_at "PAD") => `(tactic| fail "pad")
local macro_rules | `(tactic| walk_at "PAD") => `(tactic| fail "pad")
local macro_rules | `(tactic| walk_at "PAD") => `(tactic| fail "pad")
local macro_rules | `(tactic| walk_at "PAD") => `(tactic| fail "pad")
local macro_rules | `(tactic| walk_at "PAD") => `(tactic| fail "pad")
local macro_rules | `(tactic| walk_at "PAD") => `(tactic| fail "pad")
local macro_rules | `(tactic| walk_at "PAD") => `(tactic| fail "pad")
local macro_rules | `(tactic| walk_at "PAD") => `(tactic| fail "pad")
local macro_rules | `(tactic| k_mem) => `(tactic| first | with_reducible exact List.mem_cons_self | with_reducible assumption | (refine List.mem_cons_of_mem _ ?_; k_mem))
local macro_rules | `(tactic| walk_at "compareOp In ref ref") => `(tactic| (k_here; (with_reducible show wpAny _ _ (compareOp CmpOp.In (Value.ref _) (Value.ref _)) _ _ _); k_dflt first
  | (refine' in_listB true ?a ?b ?c ?d ?e ?u ?v ?_; (case a => ked_read); (case b => ked_read); (case c => decide +kernel); (case d => decide +kernel); (case e => decide +kernel); (case u => ktr_units); (case v => decide +kernel); k_whole)
  | (refine' in_listB false ?a ?b ?c ?d ?e ?u ?v ?_; (case a => ked_read); (case b => ked_read); (case c => decide +kernel); (case d => decide +kernel); (case e => decide +kernel); (case u => ktr_units); (case v => decide +kernel); k_whole)))
local macro_rules | `(tactic| walk_at "compareOp Eq ref ref") => `(tactic| (k_here; (with_reducible show wpAny _ _ (compareOp CmpOp.Eq (Value.ref _) (Value.ref _)) _ _ _); k_dflt first
  | (refine' eq_dataB true ?a ?b ?c ?d ?u ?v ?_; (case a => ked_read); (case b => ked_read); (case c => decide +kernel); (case d => decide +kernel); (case u => ktr_units); (case v => decide +kernel); k_whole)
  | (refine' eq_dataB false ?a ?b ?c ?d ?u ?v ?_; (case a => ked_read); (case b => ked_read); (case c => decide +kernel); (case d => decide +kernel); (case u => ktr_units); (case v => decide +kernel); k_whole)))
local macro_rules | `(tactic| walk_at "subscriptTail Name Slice ref ref") => `(tactic| (k_here; (with_reducible show wpAny _ _ (subscriptTail _ (PySem.Expr.Slice _ none none _) (Value.ref _) (Value.ref _)) _ _ _); k_dflt (refine' slice_tail ?F ?N ?t ?_ ?s ?g ?z; (case F => k_asm); (case N => k_asm); (case t => exact News.isTup (by k_asm) (by k_mem)); (case s => with_unfolding_all rfl); (case g => (intro _; with_unfolding_all rfl)); (case z => size_fits); k_whole); intro D' h' F' N' l1; (try k_lt l1); (try k_sweep)))
local macro_rules | `(tactic| walk_at "ite") => `(tactic| (k_closed; first
  | (with_reducible refine' ite_pos ?hc ?_; (case hc => with_unfolding_all decide +kernel))
  | (with_reducible refine' ite_neg ?hc ?_; (case hc => with_unfolding_all decide +kernel))))
local macro_rules | `(tactic| walk_at "getItem ref str") => `(tactic| (k_here; (first
  | (with_reducible refine' getItem_tabS (x := "established") ?k1 ?k2 ?_; (case k1 => k_dflt k_tabat); (case k2 => k_dflt kernel_rfl!); k_whole)
  | (with_reducible refine' getItem_tabS (x := "fin wait 1") ?k1 ?k2 ?_; (case k1 => k_dflt k_tabat); (case k2 => k_dflt kernel_rfl!); k_whole)
  | (with_reducible refine' getItem_tabS (x := "fin wait 2") ?k1 ?k2 ?_; (case k1 => k_dflt k_tabat); (case k2 => k_dflt kernel_rfl!); k_whole)); intro _))
local macro_rules | `(tactic| walk_at "call ref") => `(tactic| (k_here; k_dflt (refine wpAny_call ?_; cell_enter)))
local macro_rules | `(tactic| walk_at "eval Dict") => `(tactic| (k_here; (with_reducible show wpAny _ _ (eval (PySem.Expr.Dict _ _ _) (envOf _ _ _ _ _)) _ _ _); k_dflt (first
  | (refine' dict_open' ?l ?X ?T ?hk ?R ?hu ?F ?N ?_; (case l => decide); (case X => k_asm); (case T => k_asm); (case hk => rfl); (case R => ((repeat' (first | exact RowsOk.nil | refine RowsOk.cons (by k_is) (by k_is) ⟨by rfl, by decide +kernel, by rfl, by decide +kernel⟩ ?_)); done)); (case hu => ktr_units); (case F => k_asm); (case N => k_asm))
  | (refine' dict_close' ?X ?T ?hk ?R ?hu ?F ?N ?_; (case X => k_asm); (case T => k_asm); (case hk => rfl); (case R => ((repeat' (first | exact RowsOk.nil | refine RowsOk.cons (by k_is) (by k_is) ⟨by rfl, by decide +kernel, by rfl, by decide +kernel⟩ ?_)); done)); (case hu => ktr_units); (case F => k_asm); (case N => k_asm))); intro d' h' nw' tk' F' N' T2' sub'))
local macro_rules | `(tactic| walk_at "call builtin:dict.get") => `(tactic| (k_here; (with_reducible show wpAny _ _ (call (Value.builtin "dict.get") _) _ _ _); k_dflt (refine' get_rows ?u ?N ?T ?m ?_ ?_; (case u => ktr_units); (case N => k_asm); (case T => tuptab_tab); (case m => k_mem); (k_whole; intros); (k_whole; intros))))
def follow (st ev : Str) : Option Str :=
  cond (ev == "reset") (cond (st == "listen") (some "listen") (cond (st == "closed") none (some "closed"))) <|
  cond (ev == "abort") (cond (st == "closed") none (some "closed")) <|
  cond (ev == "timeout") (cond ((["closed", "listen", "time wait"] : List Str).any fun y => y == st) none (some "closed")) <|
  (look openD st ev).or (look closeD st ev)
set_option maxRecDepth 100000 in
set_option maxHeartbeats 0 in
theorem follow_cut (st ev : Str) (ts te : Tok) (news : Led) : Cut 2 35 [.str st ts, .str ev te] news (fun r nw => IsOpt (follow st ev) r ∧ nw = news) := by
  w_on
  unfold Cut
  k_fill
  intro w mean mg mb dp un gd cn cs a ccd cl outer A₀ base h₀ L m s Q E B F X N T hk hdp hun hret
  refine wpAny_call ?_
  (first | k_dflt cell_enter | fail "the def is not entered")
  have hkk : ScopeKind.function = ScopeKind.function := rfl
  k_steps
  all_goals first
    | (refine' hret _ news _ _ ?f ?n ⟨IsOpt.none' ?e, rfl⟩; (case f => k_asm); (case n => exact cb_drop (by k_asm) (by first | kcj_all | (intro p hp; solve_by_elim [List.mem_cons_of_mem]))); (case e => (unfold follow; (repeat (first | refine (cond_t (by with_reducible assumption)).trans ?_ | refine (cond_f (by with_reducible assumption)).trans ?_)); first | rfl | exact or_none (by assumption) (by assumption))))
    | (refine' hret _ news _ _ ?f ?n ⟨IsOpt.some' ?e, rfl⟩; (case f => k_asm); (case n => exact cb_drop (by k_asm) (by first | kcj_all | (intro p hp; solve_by_elim [List.mem_cons_of_mem]))); (case e => (unfold follow; (repeat (first | refine (cond_t (by with_reducible assumption)).trans ?_ | refine (cond_f (by with_reducible assumption)).trans ?_)); first | rfl | exact or_some (by assumption) | exact or_none (by assumption) (by assumption))))
end -- F1
section -- B1
local macro_rules | `(tactic| walk_at "PAD") => `(tactic| fail "pad")
local macro_rules | `(tactic| walk_at "PAD") => `(tactic| fail "pad")
local macro_rules | `(tactic| walk_at "PAD") => `(tactic| fail "pad")
local macro_rules | `(tactic| walk_at "PAD") => `(tactic| fail "pad")
local macro_rules | `(tactic| walk_at "PAD") => `(tactic| fail "pad")
local macro_rules | `(tactic| walk_at "PAD") => `(tactic| fail "pad")
local macro_rules | `(tactic| walk_at "PAD") => `(tactic| fail "pad")
local macro_rules | `(tactic| walk_at "PAD") => `(tactic| fail "pad")
local macro_rules | `(tactic| walk_at "PAD") => `(tactic| fail "pad")
local macro_rules | `(tactic| walk_at "PAD") => `(tactic| fail "pad")
local macro_rules | `(tactic| walk_at "PAD") => `(tactic| fail "pad")
local macro_rules | `(tactic| walk_at "PAD") => `(tactic| fail "pad")
local macro_rules | `(tactic| walk_at "PAD") => `(tactic| fail "pad")
local macro_rules | `(tactic| walk_at "PAD") => `(tactic| fail "pad")
local macro_rules | `(tactic| walk_at "PAD") => `(tactic| fail "pad")
local macro_rules | `(tactic| walk_at "PAD") => `(tactic| fail "pad")
local macro_rules | `(tactic| walk_at "PAD") => `(tactic| fail "pad")
local macro_rules | `(tactic| walk_at "PAD") => `(tactic| fail "pad")
local macro_rules | `(tactic| walk_at "PAD") => `(tactic| fail "pad")
local macro_rules | `(tactic| walk_at "PAD") => `(tactic| fail "pad")
local macro_rules | `(tactic| walk_at "PAD") => `(tactic| fail "pad")
local macro_rules | `(tactic| walk_at "PAD") => `(tactic| fail "pad")
local macro_rules | `(tactic| walk_at "PAD") => `(tactic| fail "pad")
local macro_rules | `(tactic| walk_at "PAD") => `(tactic| fail "pad")
local macro_rules | `(tactic| walk_at "PAD") => `(tactic| fail "pad")
local macro_rules | `(tactic| walk_at "PAD") => `(tactic| fail "pad")
local macro_rules | `(tactic| walk_at "PAD") => `(tactic| fail "pad")
local macro_rules | `(tactic| walk_at "PAD") => `(tactic| fail "pad")
local macro_rules | `(tactic| walk_at "PAD") => `(tactic| fail "pad")
local macro_rules | `(tactic| walk_at "PAD") => `(tactic| fail "pad")
local macro_rules | `(tactic| walk_at "PAD") => `(tactic| fail "pad")
local macro_rules | `(tactic| walk_at "PAD") => `(tactic| fail "pad")
local macro_rules | `(tactic| walk_at "PAD") => `(tactic| fail "pad")
local macro_rules | `(tactic| walk_at "PAD") => `(tactic| fail "pad")
local macro_rules | `(tactic| walk_at "PAD") => `(tactic| fail "pad")
local macro_rules | `(tactic| walk_at "PAD") => `(tactic| fail "pad")
local macro_rules | `(tactic| walk_at "PAD") => `(tactic| fail "pad")
local macro_rules | `(tactic| walk_at "PAD") => `(tactic| fail "pad")
local macro_rules | `(tactic| walk_at "PAD") => `(tactic| fail "pad")
local macro_rules | `(tactic| walk_at "PAD") => `(tactic| fail "pad")
local macro_rules | `(tactic| walk_at "PAD") => `(tactic| fail "pad")
local macro_rules | `(tactic| walk_at "PAD") => `(tactic| fail "pad")
local macro_rules | `(tactic| walk_at "PAD") => `(tactic| fail "pad")
local macro_rules | `(tactic| walk_at "PAD") => `(tactic| fail "pad")
local macro_rules | `(tactic| walk_at "PAD") => `(tactic| fail "pad")
local macro_rules | `(tactic| walk_at "PAD") => `(tactic| fail "pad")
local macro_rules | `(tactic| walk_at "PAD") => `(tactic| fail "pad")
local macro_rules | `(tactic| walk_at "PAD") => `(tactic| fail "pad")
local macro_rules | `(tactic| walk_at "PAD") => `(tactic| fail "pad")
local macro_rules | `(tactic| walk_at "PAD") => `(tactic| fail "pad")
local macro_rules | `(tactic| k_mem) => `(tactic| first | with_reducible exact List.mem_cons_self | with_reducible assumption | (refine List.mem_cons_of_mem _ ?_; k_mem))
local macro_rules | `(tactic| walk_at "compareOp In ref ref") => `(tactic| (k_here; (with_reducible show wpAny _ _ (compareOp CmpOp.In (Value.ref _) (Value.ref _)) _ _ _); k_dflt first
  | (refine' in_listB true ?a ?b ?c ?d ?e ?u ?v ?_; (case a => ked_read); (case b => ked_read); (case c => decide +kernel); (case d => decide +kernel); (case e => decide +kernel); (case u => ktr_units); (case v => decide +kernel); k_whole)
  | (refine' in_listB false ?a ?b ?c ?d ?e ?u ?v ?_; (case a => ked_read); (case b => ked_read); (case c => decide +kernel); (case d => decide +kernel); (case e => decide +kernel); (case u => ktr_units); (case v => decide +kernel); k_whole)))
local macro_rules | `(tactic| walk_at "compareOp Eq ref ref") => `(tactic| (k_here; (with_reducible show wpAny _ _ (compareOp CmpOp.Eq (Value.ref _) (Value.ref _)) _ _ _); k_dflt first
  | (refine' eq_dataB true ?a ?b ?c ?d ?u ?v ?_; (case a => ked_read); (case b => ked_read); (case c => decide +kernel); (case d => decide +kernel); (case u => ktr_units); (case v => decide +kernel); k_whole)
  | (refine' eq_dataB false ?a ?b ?c ?d ?u ?v ?_; (case a => ked_read); (case b => ked_read); (case c => decide +kernel); (case d => decide +kernel); (case u => ktr_units); (case v => decide +kernel); k_whole)))
local macro_rules | `(tactic| walk_at "subscriptTail Name Slice ref ref") => `(tactic| (k_here; (with_reducible show wpAny _ _ (subscriptTail _ (PySem.Expr.Slice _ none none _) (Value.ref _) (Value.ref _)) _ _ _); k_dflt (refine' slice_tail ?F ?N ?t ?_ ?s ?g ?z; (case F => k_asm); (case N => k_asm); (case t => exact News.isTup (by k_asm) (by k_mem)); (case s => with_unfolding_all rfl); (case g => (intro _; with_unfolding_all rfl)); (case z => size_fits); k_whole); intro D' h' F' N' l1; (try k_lt l1); (try k_sweep)))
local macro_rules | `(tactic| walk_at "ite") => `(tactic| (k_closed; first
  | (with_reducible refine' ite_pos ?hc ?_; (case hc => with_unfolding_all decide +kernel))
  | (with_reducible refine' ite_neg ?hc ?_; (case hc => with_unfolding_all decide +kernel))))
local macro_rules | `(tactic| walk_at "getItem ref str") => `(tactic| (k_here; (first
  | (with_reducible refine' getItem_tabS (x := "established") ?k1 ?k2 ?_; (case k1 => k_dflt k_tabat); (case k2 => k_dflt kernel_rfl!); k_whole)
  | (with_reducible refine' getItem_tabS (x := "fin wait 1") ?k1 ?k2 ?_; (case k1 => k_dflt k_tabat); (case k2 => k_dflt kernel_rfl!); k_whole)
  | (with_reducible refine' getItem_tabS (x := "fin wait 2") ?k1 ?k2 ?_; (case k1 => k_dflt k_tabat); (case k2 => k_dflt kernel_rfl!); k_whole)); intro _))
local macro_rules | `(tactic| walk_at "call ref") => `(tactic| (k_here; k_dflt (refine' Cut.useS (name_cut _ _ _ _ ?v ?m) ?B ?F ?X ?N ?T ?hk ?hd ?hu ?_; (first | ((case m => with_reducible assumption); (case N => exact cb_drop (by k_asm) (by kcj_all))) | ((case N => k_asm); (case m => k_mem))); (case B => k_asm); (case F => k_asm); (case X => k_asm); (case T => k_asm); (case hk => first | rfl | assumption); (case hd => ktr_room); (case hu => ktr_units); (case v => first | assumption | exact (by first | exact MdIs.closed _ | exact MdIs.listen _ | exact MdIs.synSent _ | exact MdIs.synRcvd _ | exact MdIs.estab _ _ _ | exact MdIs.fin1 _ _ _ | exact MdIs.fin2 _ _ _ | exact MdIs.closeW _ _ _ | exact MdIs.closing _ _ _ | exact MdIs.lastAck _ _ _ | exact MdIs.timeW _ _ _)); k_whole; intro t9' h9' tk9' F9' N9'; (try dsimp only); (try k_fold))))
local macro_rules | `(tactic| walk_at "call ref") => `(tactic| (k_here; k_dflt (refine' Cut.use (opened_cut _ _ _ _ _ _ ?v ?m) ?B ?F ?X ?N ?T ?hk ?hd ?hu ?_; (first | ((case m => with_reducible assumption); (case N => exact cb_drop (by k_asm) (by kcj_all))) | ((case N => k_asm); (case m => k_mem))); (case B => k_asm); (case F => k_asm); (case X => k_asm); (case T => k_asm); (case hk => first | rfl | assumption); (case hd => ktr_room); (case hu => ktr_units); (case v => first | assumption | exact (by first | exact MdIs.closed _ | exact MdIs.listen _ | exact MdIs.synSent _ | exact MdIs.synRcvd _ | exact MdIs.estab _ _ _ | exact MdIs.fin1 _ _ _ | exact MdIs.fin2 _ _ _ | exact MdIs.closeW _ _ _ | exact MdIs.closing _ _ _ | exact MdIs.lastAck _ _ _ | exact MdIs.timeW _ _ _)); k_whole; intro r9' nw9' h9' tk9' F9' N9' P9'; (try dsimp only); (try k_fold))))
local macro_rules | `(tactic| walk_at "call ref") => `(tactic| (k_here; k_dflt (refine' Cut.use (broken_cut _ _ _ _ _ _ ?v ?m) ?B ?F ?X ?N ?T ?hk ?hd ?hu ?_; (first | ((case m => with_reducible assumption); (case N => exact cb_drop (by k_asm) (by kcj_all))) | ((case N => k_asm); (case m => k_mem))); (case B => k_asm); (case F => k_asm); (case X => k_asm); (case T => k_asm); (case hk => first | rfl | assumption); (case hd => ktr_room); (case hu => ktr_units); (case v => first | assumption | exact (by first | exact MdIs.closed _ | exact MdIs.listen _ | exact MdIs.synSent _ | exact MdIs.synRcvd _ | exact MdIs.estab _ _ _ | exact MdIs.fin1 _ _ _ | exact MdIs.fin2 _ _ _ | exact MdIs.closeW _ _ _ | exact MdIs.closing _ _ _ | exact MdIs.lastAck _ _ _ | exact MdIs.timeW _ _ _)); k_whole; intro r9' nw9' h9' tk9' F9' N9' P9'; (try dsimp only); (try k_fold))))
local macro_rules | `(tactic| walk_at "call ref") => `(tactic| (k_here; k_dflt (refine' Cut.use (my_end_cut _ _ _ _ ?v ?m) ?B ?F ?X ?N ?T ?hk ?hd ?hu ?_; (first | ((case m => with_reducible assumption); (case N => exact cb_drop (by k_asm) (by kcj_all))) | ((case N => k_asm); (case m => k_mem))); (case B => k_asm); (case F => k_asm); (case X => k_asm); (case T => k_asm); (case hk => first | rfl | assumption); (case hd => ktr_room); (case hu => ktr_units); (case v => first | assumption | exact (by first | exact MdIs.closed _ | exact MdIs.listen _ | exact MdIs.synSent _ | exact MdIs.synRcvd _ | exact MdIs.estab _ _ _ | exact MdIs.fin1 _ _ _ | exact MdIs.fin2 _ _ _ | exact MdIs.closeW _ _ _ | exact MdIs.closing _ _ _ | exact MdIs.lastAck _ _ _ | exact MdIs.timeW _ _ _)); k_whole; intro r9' nw9' h9' tk9' F9' N9' P9'; (try dsimp only); (try k_fold))))
local macro_rules | `(tactic| walk_at "call ref") => `(tactic| (k_here; k_dflt (refine' Cut.use (their_end_cut _ _ _ _ ?v ?m) ?B ?F ?X ?N ?T ?hk ?hd ?hu ?_; (first | ((case m => with_reducible assumption); (case N => exact cb_drop (by k_asm) (by kcj_all))) | ((case N => k_asm); (case m => k_mem))); (case B => k_asm); (case F => k_asm); (case X => k_asm); (case T => k_asm); (case hk => first | rfl | assumption); (case hd => ktr_room); (case hu => ktr_units); (case v => first | assumption | exact (by first | exact MdIs.closed _ | exact MdIs.listen _ | exact MdIs.synSent _ | exact MdIs.synRcvd _ | exact MdIs.estab _ _ _ | exact MdIs.fin1 _ _ _ | exact MdIs.fin2 _ _ _ | exact MdIs.closeW _ _ _ | exact MdIs.closing _ _ _ | exact MdIs.lastAck _ _ _ | exact MdIs.timeW _ _ _)); k_whole; intro r9' nw9' h9' tk9' F9' N9' P9'; (try dsimp only); (try k_fold))))
local macro_rules | `(tactic| walk_at "call ref") => `(tactic| (k_here; k_dflt (refine' Cut.useMd (told_end_cut _ _ _ _ ?v ?m) ?B ?F ?X ?N ?T ?hk ?hd ?hu ?_ ?_; (first | ((case m => with_reducible assumption); (case N => exact cb_drop (by k_asm) (by kcj_all))) | ((case N => k_asm); (case m => k_mem))); (case B => k_asm); (case F => k_asm); (case X => k_asm); (case T => k_asm); (case hk => first | rfl | assumption); (case hd => ktr_room); (case hu => ktr_units); (case v => first | assumption | exact (by first | exact MdIs.closed _ | exact MdIs.listen _ | exact MdIs.synSent _ | exact MdIs.synRcvd _ | exact MdIs.estab _ _ _ | exact MdIs.fin1 _ _ _ | exact MdIs.fin2 _ _ _ | exact MdIs.closeW _ _ _ | exact MdIs.closing _ _ _ | exact MdIs.lastAck _ _ _ | exact MdIs.timeW _ _ _)); all_goals (k_whole; intros; (try dsimp only); (try k_fold)))))
def behind (md : Md) (ev : Str) : Option Md :=
  cond ((["listen", "connect", "syn", "syn ack", "ack of syn"] : List Str).any fun y => y == ev) (opened md ev) <|
  cond ((["reset", "abort", "timeout"] : List Str).any fun y => y == ev) (broken md ev) <|
  cond (ev == "close") (myEnd md) <|
  cond (ev == "fin") (theirEnd md) <|
  cond (ev == "ack of fin") (toldEnd md) <|
  cond (ev == "fin and ack of fin") (cond (md.name == "fin wait 1") ((toldEnd md).bind theirEnd) none) <|
  cond (md.name == "time wait") (some .closed) none
theorem GivesMd.over {ra : Addr} {news nw : Led} {b : Addr} {us : List Value} {o : Option Md} {r : Value} (hf : b = ra ∨ ∀ p ∈ news, p.1 ≠ b) (P : GivesMd b ((b, tup us) :: news) o r nw) : ∃ nw', (∀ p ∈ nw', p ∈ nw) ∧ GivesMd ra news o r nw' := by
  cases o with
  | none =>
    obtain ⟨rfl, rfl⟩ := P
    exact ⟨news, fun p hp => .tail _ hp, rfl, rfl⟩
  | some md =>
    obtain ⟨a, vs, rfl, hv, rfl, hg⟩ := P
    refine ⟨(a, tup vs) :: news, fun p hp => ?_, a, vs, rfl, hv, rfl, ?_⟩
    · rcases List.mem_cons.mp hp with rfl | hp
      · exact .head _
      · exact .tail _ (.tail _ hp)
    · rcases hg with rfl | hg
      · exact hf
      · exact .inr fun p hp => hg p (.tail _ hp)
theorem bind_of {md md' : Md} (h : toldEnd md = some md') : (toldEnd md).bind theirEnd = theirEnd md' := by rw [h]; rfl
theorem told_some {md : Md} (h : (md.name == ("fin wait 1" : Str)) = true) (h2 : toldEnd md = none) : False := by
  have e : md = .fin1 := by
    cases md <;> first | rfl | exact absurd h (by decide +kernel)
  subst e
  cases h2
set_option maxRecDepth 100000 in
set_option maxHeartbeats 0 in
theorem behind_cut (md : Md) (vs : List Value) (ra : Addr) (ev : Str) (te : Tok) (news : Led) (hv : MdIs md vs) (hm : (ra, tup vs) ∈ news) : Cut 3 133 [.ref ra, .str ev te] news (GivesMd ra news (behind md ev)) := by
  w_on
  unfold Cut
  k_fill
  intro w mean mg mb dp un gd cn cs a ccd cl outer A₀ base h₀ L m s Q E B F X N T hk hdp hun hret
  refine wpAny_call ?_
  (first | k_dflt cell_enter | fail "the def is not entered")
  k_steps
  all_goals first
    | exact hret _ _ _ _ (by k_asm) (by k_asm) (GivesMd.as (by assumption) (by unfold behind; (repeat (first | refine (cond_t (by with_reducible assumption)).trans ?_ | refine (cond_f (by with_reducible assumption)).trans ?_)); first | rfl | assumption))
    | (refine' hret _ _ _ _ ?f ?n (GivesMd.none' ?e); (case f => k_asm); (case n => exact cb_drop (by k_asm) (by kcj_all)); (case e => (unfold behind; (repeat (first | refine (cond_t (by with_reducible assumption)).trans ?_ | refine (cond_f (by with_reducible assumption)).trans ?_)); first | rfl | assumption)))
    | (refine' hret _ _ _ _ ?f ?n (GivesMd.some' ?e ?v (Or.inr ?fr)); (case f => k_asm); (case n => exact news_two (by k_asm) (by k_mem) (by kcj_all)); (case v => exact (by first | exact MdIs.closed _ | exact MdIs.listen _ | exact MdIs.synSent _ | exact MdIs.synRcvd _ | exact MdIs.estab _ _ _ | exact MdIs.fin1 _ _ _ | exact MdIs.fin2 _ _ _ | exact MdIs.closeW _ _ _ | exact MdIs.closing _ _ _ | exact MdIs.lastAck _ _ _ | exact MdIs.timeW _ _ _)); (case fr => exact (by first | exact fresh_all (by assumption) | exact fresh_lt (by assumption) | exact fresh_lt (And.right (by assumption)) | exact fresh_lt (And.right (And.right (by assumption))) | exact fresh_lt (And.right (And.right (And.right (by assumption)))) | exact fresh_lt (And.right (And.right (And.right (And.right (by assumption))))))); (case e => (unfold behind; (repeat (first | refine (cond_t (by with_reducible assumption)).trans ?_ | refine (cond_f (by with_reducible assumption)).trans ?_)); first | rfl | assumption)))
    | (refine' hret _ _ _ _ ?f ?n (GivesMd.some' ?e ?v ?fr); (case f => k_asm); (case n => k_asm); (case v => assumption); (case fr => assumption); (case e => (unfold behind; (repeat (first | refine (cond_t (by with_reducible assumption)).trans ?_ | refine (cond_f (by with_reducible assumption)).trans ?_)); first | rfl | assumption)))
    | (exact (told_some (by with_reducible assumption) (by with_reducible assumption)).elim)
    | (obtain ⟨nw5, sub5, P5⟩ := GivesMd.over (by assumption) (by assumption); exact hret _ _ _ _ (by k_asm) (cb_drop (by k_asm) sub5) (GivesMd.as P5 (by unfold behind; (repeat (first | refine (cond_t (by with_reducible assumption)).trans ?_ | refine (cond_f (by with_reducible assumption)).trans ?_)); exact bind_of (by assumption))))
end -- B1
section -- T1
local macro_rules | `(tactic| walk_at "PAD") => `(tactic| fail "pad")
local macro_rules | `(tactic| walk_at "PAD") => `(tactic| fail "pad")
local macro_rules | `(tactic| walk_at "PAD") => `(tactic| fail "pad")
local macro_rules | `(tactic| walk_at "PAD") => `(tactic| fail "pad")
local macro_rules | `(tactic| walk_at "PAD") => `(tactic| fail "pad")
local macro_rules | `(tactic| walk_at "PAD") => `(tactic| fail "pad")
local macro_rules | `(tactic| walk_at "PAD") => `(tactic| fail "pad")
local macro_rules | `(tactic| walk_at "PAD") => `(tactic| fail "pad")
local macro_rules | `(tactic| walk_at "PAD") => `(tactic| fail "pad")
local macro_rules | `(tactic| walk_at "PAD") => `(tactic| fail "pad")
local macro_rules | `(tactic| walk_at "PAD") => `(tactic| fail "pad")
local macro_rules | `(tactic| walk_at "PAD") => `(tactic| fail "pad")
local macro_rules | `(tactic| walk_at "PAD") => `(tactic| fail "pad")
local macro_rules | `(tactic| walk_at "PAD") => `(tactic| fail "pad")
local macro_rules | `(tactic| walk_at "PAD") => `(tactic| fail "pad")
local macro_rules | `(tactic| walk_at "PAD") => `(tactic| fail "pad")
local macro_rules | `(tactic| walk_at "PAD") => `(tactic| fail "pad")
local macro_rules | `(tactic| walk_at "PAD") => `(tactic| fail "pad")
local macro_rules | `(tactic| walk_at "PAD") => `(tactic| fail "pad")
local macro_rules | `(tactic| walk_at "PAD") => `(tactic| fail "pad")
local macro_rules | `(tactic| walk_at "PAD") => `(tactic| fail "pad")
local macro_rules | `(tactic| walk_at "PAD") => `(tactic| fail "pad")
local macro_rules | `(tactic| walk_at "PAD") => `(tactic| fail "pad")
local macro_rules | `(tactic| walk_at "PAD") => `(tactic| fail "pad")
local macro_rules | `(tactic| walk_at "PAD") => `(tactic| fail "pad")
local macro_rules | `(tactic| walk_at "PAD") => `(tactic| fail "pad")
local macro_rules | `(tactic| walk_at "PAD") => `(tactic| fail "pad")
local macro_rules | `(tactic| walk_at "PAD") => `(tactic| fail "pad")
local macro_rules | `(tactic| walk_at "PAD") => `(tactic| fail "pad")
local macro_rules | `(tactic| walk_at "PAD") => `(tactic| fail "pad")
local macro_rules | `(tactic| walk_at "PAD") => `(tactic| fail "pad")
local macro_rules | `(tactic| walk_at "PAD") => `(tactic| fail "pad")
local macro_rules | `(tactic| walk_at "PAD") => `(tactic| fail "pad")
local macro_rules | `(tactic| walk_at "PAD") => `(tactic| fail "pad")
local macro_rules | `(tactic| walk_at "PAD") => `(tactic| fail "pad")
local macro_rules | `(tactic| walk_at "PAD") => `(tactic| fail "pad")
local macro_rules | `(tactic| walk_at "PAD") => `(tactic| fail "pad")
local macro_rules | `(tactic| walk_at "PAD") => `(tactic| fail "pad")
local macro_rules | `(tactic| walk_at "PAD") => `(tactic| fail "pad")
local macro_rules | `(tactic| walk_at "PAD") => `(tactic| fail "pad")
local macro_rules | `(tactic| walk_at "PAD") => `(tactic| fail "pad")
local macro_rules | `(tactic| walk_at "PAD") => `(tactic| fail "pad")
local macro_rules | `(tactic| walk_at "PAD") => `(tactic| fail "pad")
local macro_rules | `(tactic| walk_at "PAD") => `(tactic| fail "pad")
local macro_rules | `(tactic| walk_at "PAD") => `(tactic| fail "pad")
local macro_rules | `(tactic| walk_at "PAD") => `(tactic| fail "pad")
local macro_rules | `(tactic| walk_at "PAD") => `(tactic| fail "pad")
local macro_rules | `(tactic| walk_at "PAD") => `(tactic| fail "pad")
local macro_rules | `(tactic| walk_at "PAD") => `(tactic| fail "pad")
local macro_rules | `(tactic| walk_at "PAD") => `(tactic| fail "pad")
local macro_rules | `(tactic| walk_at "PAD") => `(tactic| fail "pad")
local macro_rules | `(tactic| walk_at "PAD") => `(tactic| fail "pad")
local macro_rules | `(tactic| walk_at "PAD") => `(tactic| fail "pad")
local macro_rules | `(tactic| walk_at "PAD") => `(tactic| fail "pad")
local macro_rules | `(tactic| walk_at "PAD") => `(tactic| fail "pad")
local macro_rules | `(tactic| walk_at "PAD") => `(tactic| fail "pad")
local macro_rules | `(tactic| walk_at "PAD") => `(tactic| fail "pad")
local macro_rules | `(tactic| walk_at "PAD") => `(tactic| fail "pad")
local macro_rules | `(tactic| walk_at "PAD") => `(tactic| fail "pad")
local macro_rules | `(tactic| walk_at "PAD") => `(tactic| fail "pad")
local macro_rules | `(tactic| walk_at "PAD") => `(tactic| fail "pad")
local macro_rules | `(tactic| walk_at "PAD") => `(tactic| fail "pad")
local macro_rules | `(tactic| k_mem) => `(tactic| first | with_reducible exact List.mem_cons_self | with_reducible assumption | (refine List.mem_cons_of_mem _ ?_; k_mem))
local macro_rules | `(tactic| walk_at "compareOp In ref ref") => `(tactic| (k_here; (with_reducible show wpAny _ _ (compareOp CmpOp.In (Value.ref _) (Value.ref _)) _ _ _); k_dflt first
  | (refine' in_listB true ?a ?b ?c ?d ?e ?u ?v ?_; (case a => ked_read); (case b => ked_read); (case c => decide +kernel); (case d => decide +kernel); (case e => decide +kernel); (case u => ktr_units); (case v => decide +kernel); k_whole)
  | (refine' in_listB false ?a ?b ?c ?d ?e ?u ?v ?_; (case a => ked_read); (case b => ked_read); (case c => decide +kernel); (case d => decide +kernel); (case e => decide +kernel); (case u => ktr_units); (case v => decide +kernel); k_whole)))
local macro_rules | `(tactic| walk_at "compareOp Eq ref ref") => `(tactic| (k_here; (with_reducible show wpAny _ _ (compareOp CmpOp.Eq (Value.ref _) (Value.ref _)) _ _ _); k_dflt first
  | (refine' eq_dataB true ?a ?b ?c ?d ?u ?v ?_; (case a => ked_read); (case b => ked_read); (case c => decide +kernel); (case d => decide +kernel); (case u => ktr_units); (case v => decide +kernel); k_whole)
  | (refine' eq_dataB false ?a ?b ?c ?d ?u ?v ?_; (case a => ked_read); (case b => ked_read); (case c => decide +kernel); (case d => decide +kernel); (case u => ktr_units); (case v => decide +kernel); k_whole)))
local macro_rules | `(tactic| walk_at "subscriptTail Name Slice ref ref") => `(tactic| (k_here; (with_reducible show wpAny _ _ (subscriptTail _ (PySem.Expr.Slice _ none none _) (Value.ref _) (Value.ref _)) _ _ _); k_dflt (refine' slice_tail ?F ?N ?t ?_ ?s ?g ?z; (case F => k_asm); (case N => k_asm); (case t => exact News.isTup (by k_asm) (by k_mem)); (case s => with_unfolding_all rfl); (case g => (intro _; with_unfolding_all rfl)); (case z => size_fits); k_whole); intro D' h' F' N' l1; (try k_lt l1); (try k_sweep)))
local macro_rules | `(tactic| walk_at "ite") => `(tactic| (k_closed; first
  | (with_reducible refine' ite_pos ?hc ?_; (case hc => with_unfolding_all decide +kernel))
  | (with_reducible refine' ite_neg ?hc ?_; (case hc => with_unfolding_all decide +kernel))))
local macro_rules | `(tactic| walk_at "getItem ref str") => `(tactic| (k_here; (first
  | (with_reducible refine' getItem_tabS (x := "established") ?k1 ?k2 ?_; (case k1 => k_dflt k_tabat); (case k2 => k_dflt kernel_rfl!); k_whole)
  | (with_reducible refine' getItem_tabS (x := "fin wait 1") ?k1 ?k2 ?_; (case k1 => k_dflt k_tabat); (case k2 => k_dflt kernel_rfl!); k_whole)
  | (with_reducible refine' getItem_tabS (x := "fin wait 2") ?k1 ?k2 ?_; (case k1 => k_dflt k_tabat); (case k2 => k_dflt kernel_rfl!); k_whole)); intro _))
local macro_rules | `(tactic| k_all) => `(tactic| with_reducible assumption)
set_option maxRecDepth 100000 in
set_option maxHeartbeats 0 in
theorem take_cut (l : Addr) (a : Int) (ta : Tok) (b : Int) (tb : Tok) (n : Nat) (top : Int) (tt : Tok) (rest : Led) (ha : 0 ≤ a) (hb : 0 ≤ b) (h0 : 0 < top) (h16 : top ≤ 16) (hoff : ∀ p ∈ rest, p.1 ≠ l) : Cut 1 77 [.ref l, .int top tt] ((l, src a ta b tb n) :: rest) (Took top l rest) := by
  w_on
  unfold Cut
  k_fill
  intro w mean mg mb dp un gd cn cs a ccd cl outer A₀ base h₀ L m s Q E B F X N T hk hdp hun hret
  refine wpAny_call ?_
  (first | k_dflt cell_enter | fail "the def is not entered")
  k_steps
  all_goals first
    | exact hret _ _ _ _ (by k_asm) (by k_asm) (took_high h0 ha hb)
    | exact hret _ _ _ _ (by k_asm) (by k_asm) (took_low h0 ha)
local macro_rules | `(tactic| walk_at "call ref") => `(tactic| (k_here; k_dflt (refine' Cut.useTook (take_cut _ _ _ _ _ _ _ _ _ ?a ?b ?z ?y ?o) ?B ?F ?X ?N ?T ?hk ?hd ?hu ?_; (case N => k_asm); (case B => k_asm); (case F => k_asm); (case X => k_asm); (case T => k_asm); (case hk => first | rfl | assumption); (case hd => ktr_room); (case hu => ktr_units); (case a => assumption); (case b => assumption); (case o => assumption); (case z => omega); (case y => omega); k_whole; intros; (try dsimp only); (try k_fold))))
local macro_rules | `(tactic| walk_at "call builtin:len") => `(tactic| (k_here; (refine' len_some ?l ?z ?_; (case l => exact News.isList (by k_asm) (by k_mem)); (case z => assumption); k_whole; intros; (try dsimp only); (try k_fold))))
local macro_rules | `(tactic| walk_at "subscriptTail") => `(tactic| (k_here; (with_reducible show wpAny _ _ (subscriptTail _ _ (Value.ref _) (Value.int _ _)) _ _ _); k_dflt (refine' item_some ?l ?a ?b ?c ?_ ?s; (case l => exact News.isList (by k_asm) (by k_mem)); (case a => assumption); (case b => assumption); (case c => assumption); (case s => with_unfolding_all rfl); k_whole; intros; (try dsimp only); (try k_fold))))
set_option maxRecDepth 100000 in
set_option maxHeartbeats 0 in
theorem one_cut (l : Addr) (a : Int) (ta : Tok) (b : Int) (tb : Tok) (n : Nat) (lt : Addr) (vs : List Value) (nt : Nat) (rest : Led) (ha : 0 ≤ a) (hb : 0 ≤ b) (h0 : 0 < vs.length) (h16 : vs.length ≤ 16) (hoff : ∀ p ∈ rest, p.1 ≠ l) (hm : (lt, W.listOf vs.toArray nt) ∈ rest) : Cut 2 84 [.ref l, .ref lt] ((l, src a ta b tb n) :: rest) (Drawn vs l rest) := by
  w_on
  unfold Cut
  k_fill
  intro w mean mg mb dp un gd cn cs a ccd cl outer A₀ base h₀ L m s Q E B F X N T hk hdp hun hret
  refine wpAny_call ?_
  (first | k_dflt cell_enter | fail "the def is not entered")
  k_steps
  all_goals exact hret _ _ _ _ (by k_asm) (by k_asm) (drawn_of (by assumption) (by assumption) (by assumption))
end -- T1
section -- T2
local macro_rules | `(tactic| walk_at "PAD") => `(tactic| fail "pad")
local macro_rules | `(tactic| walk_at "PAD") => `(tactic| fail "pad")
local macro_rules | `(tactic| walk_at "PAD") => `(tactic| fail "pad")
local macro_rules | `(tactic| walk_at "PAD") => `(tactic| fail "pad")
local macro_rules | `(tactic| walk_at "PAD") => `(tactic| fail "pad")
local macro_rules | `(tactic| walk_at "PAD") => `(tactic| fail "pad")
local macro_rules | `(tactic| walk_at "PAD") => `(tactic| fail "pad")
local macro_rules | `(tactic| walk_at "PAD") => `(tactic| fail "pad")
local macro_rules | `(tactic| walk_at "PAD") => `(tactic| fail "pad")
local macro_rules | `(tactic| walk_at "PAD") => `(tactic| fail "pad")
local macro_rules | `(tactic| walk_at "PAD") => `(tactic| fail "pad")
local macro_rules | `(tactic| walk_at "PAD") => `(tactic| fail "pad")
local macro_rules | `(tactic| walk_at "PAD") => `(tactic| fail "pad")
local macro_rules | `(tactic| walk_at "PAD") => `(tactic| fail "pad")
local macro_rules | `(tactic| walk_at "PAD") => `(tactic| fail "pad")
local macro_rules | `(tactic| walk_at "PAD") => `(tactic| fail "pad")
local macro_rules | `(tactic| walk_at "PAD") => `(tactic| fail "pad")
local macro_rules | `(tactic| walk_at "PAD") => `(tactic| fail "pad")
local macro_rules | `(tactic| walk_at "PAD") => `(tactic| fail "pad")
local macro_rules | `(tactic| walk_at "PAD") => `(tactic| fail "pad")
local macro_rules | `(tactic| walk_at "PAD") => `(tactic| fail "pad")
local macro_rules | `(tactic| walk_at "PAD") => `(tactic| fail "pad")
local macro_rules | `(tactic| walk_at "PAD") => `(tactic| fail "pad")
local macro_rules | `(tactic| walk_at "PAD") => `(tactic| fail "pad")
local macro_rules | `(tactic| walk_at "PAD") => `(tactic| fail "pad")
local macro_rules | `(tactic| walk_at "PAD") => `(tactic| fail "pad")
local macro_rules | `(tactic| walk_at "PAD") => `(tactic| fail "pad")
local macro_rules | `(tactic| walk_at "PAD") => `(tactic| fail "pad")
local macro_rules | `(tactic| walk_at "PAD") => `(tactic| fail "pad")
local macro_rules | `(tactic| walk_at "PAD") => `(tactic| fail "pad")
local macro_rules | `(tactic| walk_at "PAD") => `(tactic| fail "pad")
local macro_rules | `(tactic| walk_at "PAD") => `(tactic| fail "pad")
local macro_rules | `(tactic| walk_at "PAD") => `(tactic| fail "pad")
local macro_rules | `(tactic| walk_at "PAD") => `(tactic| fail "pad")
local macro_rules | `(tactic| walk_at "PAD") => `(tactic| fail "pad")
local macro_rules | `(tactic| walk_at "PAD") => `(tactic| fail "pad")
local macro_rules | `(tactic| walk_at "PAD") => `(tactic| fail "pad")
local macro_rules | `(tactic| walk_at "PAD") => `(tactic| fail "pad")
local macro_rules | `(tactic| walk_at "PAD") => `(tactic| fail "pad")
local macro_rules | `(tactic| walk_at "PAD") => `(tactic| fail "pad")
local macro_rules | `(tactic| walk_at "PAD") => `(tactic| fail "pad")
local macro_rules | `(tactic| walk_at "PAD") => `(tactic| fail "pad")
local macro_rules | `(tactic| walk_at "PAD") => `(tactic| fail "pad")
local macro_rules | `(tactic| walk_at "PAD") => `(tactic| fail "pad")
local macro_rules | `(tactic| walk_at "PAD") => `(tactic| fail "pad")
local macro_rules | `(tactic| walk_at "PAD") => `(tactic| fail "pad")
local macro_rules | `(tactic| walk_at "PAD") => `(tactic| fail "pad")
local macro_rules | `(tactic| walk_at "PAD") => `(tactic| fail "pad")
local macro_rules | `(tactic| walk_at "PAD") => `(tactic| fail "pad")
local macro_rules | `(tactic| walk_at "PAD") => `(tactic| fail "pad")
local macro_rules | `(tactic| walk_at "PAD") => `(tactic| fail "pad")
local macro_rules | `(tactic| walk_at "PAD") => `(tactic| fail "pad")
local macro_rules | `(tactic| walk_at "PAD") => `(tactic| fail "pad")
local macro_rules | `(tactic| walk_at "PAD") => `(tactic| fail "pad")
local macro_rules | `(tactic| walk_at "PAD") => `(tactic| fail "pad")
local macro_rules | `(tactic| walk_at "PAD") => `(tactic| fail "pad")
local macro_rules | `(tactic| walk_at "PAD") => `(tactic| fail "pad")
local macro_rules | `(tactic| walk_at "PAD") => `(tactic| fail "pad")
local macro_rules | `(tactic| walk_at "PAD") => `(tactic| fail "pad")
local macro_rules | `(tactic| walk_at "PAD") => `(tactic| fail "pad")
local macro_rules | `(tactic| walk_at "PAD") => `(tactic| fail "pad")
local macro_rules | `(tactic| walk_at "PAD") => `(tactic| fail "pad")
local macro_rules | `(tactic| walk_at "PAD") => `(tactic| fail "pad")
local macro_rules | `(tactic| walk_at "PAD") => `(tactic| fail "pad")
local macro_rules | `(tactic| walk_at "PAD") => `(tactic| fail "pad")
local macro_rules | `(tactic| walk_at "PAD") => `(tactic| fail "pad")
local macro_rules | `(tactic| walk_at "PAD") => `(tactic| fail "pad")
local macro_rules | `(tactic| walk_at "PAD") => `(tactic| fail "pad")
local macro_rules | `(tactic| walk_at "PAD") => `(tactic| fail "pad")
local macro_rules | `(tactic| walk_at "PAD") => `(tactic| fail "pad")
local macro_rules | `(tactic| walk_at "PAD") => `(tactic| fail "pad")
local macro_rules | `(tactic| k_mem) => `(tactic| first | with_reducible exact List.mem_cons_self | with_reducible assumption | (refine List.mem_cons_of_mem _ ?_; k_mem))
local macro_rules | `(tactic| walk_at "compareOp In ref ref") => `(tactic| (k_here; (with_reducible show wpAny _ _ (compareOp CmpOp.In (Value.ref _) (Value.ref _)) _ _ _); k_dflt first
  | (refine' in_listB true ?a ?b ?c ?d ?e ?u ?v ?_; (case a => ked_read); (case b => ked_read); (case c => decide +kernel); (case d => decide +kernel); (case e => decide +kernel); (case u => ktr_units); (case v => decide +kernel); k_whole)
  | (refine' in_listB false ?a ?b ?c ?d ?e ?u ?v ?_; (case a => ked_read); (case b => ked_read); (case c => decide +kernel); (case d => decide +kernel); (case e => decide +kernel); (case u => ktr_units); (case v => decide +kernel); k_whole)))
local macro_rules | `(tactic| walk_at "compareOp Eq ref ref") => `(tactic| (k_here; (with_reducible show wpAny _ _ (compareOp CmpOp.Eq (Value.ref _) (Value.ref _)) _ _ _); k_dflt first
  | (refine' eq_dataB true ?a ?b ?c ?d ?u ?v ?_; (case a => ked_read); (case b => ked_read); (case c => decide +kernel); (case d => decide +kernel); (case u => ktr_units); (case v => decide +kernel); k_whole)
  | (refine' eq_dataB false ?a ?b ?c ?d ?u ?v ?_; (case a => ked_read); (case b => ked_read); (case c => decide +kernel); (case d => decide +kernel); (case u => ktr_units); (case v => decide +kernel); k_whole)))
local macro_rules | `(tactic| walk_at "subscriptTail Name Slice ref ref") => `(tactic| (k_here; (with_reducible show wpAny _ _ (subscriptTail _ (PySem.Expr.Slice _ none none _) (Value.ref _) (Value.ref _)) _ _ _); k_dflt (refine' slice_tail ?F ?N ?t ?_ ?s ?g ?z; (case F => k_asm); (case N => k_asm); (case t => exact News.isTup (by k_asm) (by k_mem)); (case s => with_unfolding_all rfl); (case g => (intro _; with_unfolding_all rfl)); (case z => size_fits); k_whole); intro D' h' F' N' l1; (try k_lt l1); (try k_sweep)))
local macro_rules | `(tactic| walk_at "ite") => `(tactic| (k_closed; first
  | (with_reducible refine' ite_pos ?hc ?_; (case hc => with_unfolding_all decide +kernel))
  | (with_reducible refine' ite_neg ?hc ?_; (case hc => with_unfolding_all decide +kernel))))
local macro_rules | `(tactic| walk_at "getItem ref str") => `(tactic| (k_here; (first
  | (with_reducible refine' getItem_tabS (x := "established") ?k1 ?k2 ?_; (case k1 => k_dflt k_tabat); (case k2 => k_dflt kernel_rfl!); k_whole)
  | (with_reducible refine' getItem_tabS (x := "fin wait 1") ?k1 ?k2 ?_; (case k1 => k_dflt k_tabat); (case k2 => k_dflt kernel_rfl!); k_whole)
  | (with_reducible refine' getItem_tabS (x := "fin wait 2") ?k1 ?k2 ?_; (case k1 => k_dflt k_tabat); (case k2 => k_dflt kernel_rfl!); k_whole)); intro _))
set_option maxRecDepth 100000 in
set_option maxHeartbeats 0 in
theorem pool_cut (l : Addr) (vs : List Value) (ns : List Int) (news : Led) (hi : IntsAre vs ns) (hfit : ns.length < 2 ^ 62) (w : World) (mean : ExcName → Option Value) (mg mb : Str → Option Value) (dp un : Nat) (gd : Option (List Code)) (cn : Str) (cs : Scope) (a : Addr) (ccd : Value) (cl : List (Str × Addr)) (outer : List Env) (A₀ : Around) (base h₀ : Heap) (L : Addr) (m : Str → Option Value) (s : Shared) (Q E : Value → Shared → Prop)
    (B : Below A₀ base outer h₀) (F : Fr h₀ L s.heap m) (X : (hd.heap_39 w.params).In h₀) (N : News h₀ L s.heap news) (T : Top hd.view_39 (looseW hd.view_39 []) mean mg mb h₀) (hk : cs.kind = .function) (hdp : dp + 1 < recursionLimit) (hun : un + 200 < cLine) (hl : base.IsList l vs.toArray)
    (hret : ∀ (r : Addr) (a : Int) (ta : Tok) (b : Int) (tb : Tok) (n : Nat) (h' : Heap) (tk' : Nat), 0 ≤ a → 0 ≤ b → (∀ p ∈ news, p.1 < r) → Fr h₀ L h' m → News h₀ L h' ((r, src a ta b tb n) :: news) → Q (.ref r) { s with heap := h', toks := tk' }) :
    wpAny (model PySem.Challenge.rw_nu0121_01.row.prog w) (ktrTop dp un gd cn cs L a ccd cl outer) (call (.ref 70) [.ref l]) Q E s := by
  w_on
  revert X hret
  k_fill
  intro X hret
  refine wpAny_call ?_
  (first | k_dflt cell_enter | fail "the def is not entered")
  k_steps
  all_goals
    (refine' hret _ _ _ _ _ _ _ _ ?pza ?pzb ?pzr ?pzf ?pzn; (case pzf => k_asm); (case pzn => k_asm); (case pzr => assumption); (case pzb => exact Int.fmod_nonneg_of_pos _ (by decide)); (case pza => exact Int.mul_nonneg (by split <;> omega) (by split <;> omega)))
end -- T2
section -- T3
section
variable {w : World} {mean : ExcName → Option Value} {mg mb : Str → Option Value} {dp un : Nat} {gd : Option (List Code)} {cn : Str} {cs : Scope} {a : Addr} {ccd : Value} {cl : List (Str × Addr)} {outer : List Env} {A₀ : Around} {base h₀ : Heap} {L : Addr} {m : Str → Option Value} {s : Shared} {Q E : Value → Shared → Prop}
  {l lt : Addr} {x y : Int} {tx ty tt : Tok} {n nt : Nat} {top : Int} {vs : List Value} {led : Led} {g : Obj → Led}
theorem upd_in {o : Obj} (U : UpdF l o led g) : ∃ rest, (∀ p ∈ (l, o) :: rest, p ∈ led) ∧ (∀ p ∈ rest, p.1 ≠ l) ∧ (∀ o', ∀ p ∈ g o', p ∈ (l, o') :: rest) ∧ ∀ p ∈ led, p.1 ≠ l → p ∈ rest := by
  obtain ⟨pre, post, rfl, hg, h1, h2⟩ := U.split
  refine ⟨pre ++ post, fun p hp => ?_, fun p hp => ?_, fun o' p hp => ?_, fun p hp hne => ?_⟩
  · rcases List.mem_cons.mp hp with rfl | hp
    · exact List.mem_append_right _ (.head _)
    · rcases List.mem_append.mp hp with hp | hp
      · exact List.mem_append_left _ hp
      · exact List.mem_append_right _ (.tail _ hp)
  · rcases List.mem_append.mp hp with hp | hp
    · exact h1 p hp
    · exact h2 p hp
  · rw [hg] at hp
    rcases List.mem_append.mp hp with hp | hp
    · exact .tail _ (List.mem_append_left _ hp)
    · rcases List.mem_cons.mp hp with rfl | hp
      · exact .head _
      · exact .tail _ (List.mem_append_right _ hp)
  · rcases List.mem_append.mp hp with hp | hp
    · exact List.mem_append_left _ hp
    · rcases List.mem_cons.mp hp with rfl | hp
      · exact absurd rfl hne
      · exact List.mem_append_right _ hp
theorem take_at (U : UpdF l (src x tx y ty n) led g) (hx : 0 ≤ x) (hy : 0 ≤ y) (h0 : 0 < top) (h16 : top ≤ 16)
    (B : Below A₀ base outer h₀) (F : Fr h₀ L s.heap m) (X : (hd.heap_39 w.params).In h₀) (N : News h₀ L s.heap led) (T : Top hd.view_39 (looseW hd.view_39 []) mean mg mb h₀) (hk : cs.kind = .function) (hd' : dp + 1 < recursionLimit) (hu : un + 200 < cLine)
    (ret : ∀ (q : Int) (t : Tok) (x' : Int) (tx' : Tok) (y' : Int) (ty' : Tok) (n' : Nat) (h' : Heap) (tk' : Nat), 0 ≤ q → q < top → 0 ≤ x' → 0 ≤ y' → Fr h₀ L h' m → News h₀ L h' (g (src x' tx' y' ty' n')) → Q (.int q t) { s with heap := h', toks := tk' }) :
    wpAny (model PySem.Challenge.rw_nu0121_01.row.prog w) (ktrTop dp un gd cn cs L a ccd cl outer) (call (.ref 77) [.ref l, .int top tt]) Q E s := by
  obtain ⟨rest, h1, h2, h3, h4⟩ := upd_in U
  exact Cut.useTook (take_cut l x tx y ty n top tt rest hx hy h0 h16 h2) B F X (fun p hp => N p (h1 p hp)) T hk hd' hu fun q t x' tx' y' ty' n' h' tk' e1 e2 e3 e4 F' N' => ret q t x' tx' y' ty' n' h' tk' e1 e2 e3 e4 F' fun p hp => N' p (h3 _ p hp)
theorem one_at (U : UpdF l (src x tx y ty n) led g) (hm : (lt, W.listOf vs.toArray nt) ∈ led) (hne : @Ne Nat lt l) (hx : 0 ≤ x) (hy : 0 ≤ y) (h0 : 0 < vs.length) (h16 : vs.length ≤ 16)
    (B : Below A₀ base outer h₀) (F : Fr h₀ L s.heap m) (X : (hd.heap_39 w.params).In h₀) (N : News h₀ L s.heap led) (T : Top hd.view_39 (looseW hd.view_39 []) mean mg mb h₀) (hk : cs.kind = .function) (hd' : dp + 2 < recursionLimit) (hu : un + 300 < cLine)
    (ret : ∀ (r : Value) (x' : Int) (tx' : Tok) (y' : Int) (ty' : Tok) (n' : Nat) (h' : Heap) (tk' : Nat), r ∈ vs → 0 ≤ x' → 0 ≤ y' → Fr h₀ L h' m → News h₀ L h' (g (src x' tx' y' ty' n')) → Q r { s with heap := h', toks := tk' }) :
    wpAny (model PySem.Challenge.rw_nu0121_01.row.prog w) (ktrTop dp un gd cn cs L a ccd cl outer) (call (.ref 84) [.ref l, .ref lt]) Q E s := by
  obtain ⟨rest, h1, h2, h3, h4⟩ := upd_in U
  exact Cut.useDrawn (one_cut l x tx y ty n lt vs nt rest hx hy h0 h16 h2 (h4 _ hm hne)) B F X (fun p hp => N p (h1 p hp)) T hk hd' hu fun r x' tx' y' ty' n' h' tk' e1 e2 e3 F' N' => ret r x' tx' y' ty' n' h' tk' e1 e2 e3 F' fun p hp => N' p (h3 _ p hp)
theorem upd_keep {o : Obj} (U : UpdF l o led g) : ∀ o', ∀ p ∈ led, p.1 ≠ l → p ∈ g o' := by
  obtain ⟨pre, post, rfl, hg, h1, h2⟩ := U.split
  intro o' p hp hne
  rw [hg]
  rcases List.mem_append.mp hp with hp | hp
  · exact List.mem_append_left _ hp
  · rcases List.mem_cons.mp hp with rfl | hp
    · exact absurd rfl hne
    · exact List.mem_append_right _ (.tail _ hp)

def evs : List Str := ["listen", "connect", "syn", "syn ack", "ack of syn", "fin", "ack of fin", "fin and ack of fin", "close", "reset", "abort", "timeout", "time wait over"]
/-- events, each one of those that the law draws -/
def Ev (v : Value) : Prop := ∃ e t, v = .str e t ∧ e ∈ evs
theorem ev_of {e : Str} {t : Tok} (h : evs.contains e = true) : Ev (.str e t) := ⟨e, t, rfl, List.contains_iff_mem.mp h⟩
inductive EvAll : List Value → Prop
  | nil : EvAll []
  | cons {v : Value} {vs : List Value} : Ev v → EvAll vs → EvAll (v :: vs)
theorem EvAll.all {us : List Value} (h : EvAll us) : ∀ v ∈ us, Ev v := by
  induction h with
  | nil => intro v hv; cases hv
  | cons h _ ih =>
    intro v hv
    rcases List.mem_cons.mp hv with rfl | hv
    · exact h
    · exact ih v hv
/-- lists of events, all of the ledger, none of them the pool -/
inductive EvLists (led : Led) (l : Addr) : List Value → Prop
  | nil : EvLists led l []
  | cons {x : Addr} {its : List Value} {nx : Nat} {vs : List Value} : (x, W.listOf its.toArray nx) ∈ led → @Ne Nat x l → EvAll its → its.length ≤ 3 → EvLists led l vs → EvLists led l (.ref x :: vs)
theorem EvLists.one {vs : List Value} (h : EvLists led l vs) {v : Value} (hv : v ∈ vs) : ∃ x its nx, v = .ref x ∧ (x, W.listOf its.toArray nx) ∈ led ∧ x ≠ l ∧ EvAll its ∧ its.length ≤ 3 := by
  induction h with
  | nil => cases hv
  | cons h1 h2 h3 h4 _ ih =>
    rcases List.mem_cons.mp hv with rfl | hv
    · exact ⟨_, _, _, rfl, h1, h2, h3, h4⟩
    · exact ih hv
/-- an object that stands whatever the pool holds -/
def Stays (z : Addr) (ob : Obj) (g : Obj → Led) : Prop := ∀ o', (z, ob) ∈ g o'
theorem Stays.get {z : Addr} {ob : Obj} {g : Obj → Led} (h : Stays z ob g) : ∀ o', (z, ob) ∈ g o' := h
theorem one_list (U : UpdF l (src x tx y ty n) led g) (hm : (lt, W.listOf vs.toArray nt) ∈ led) (hne : @Ne Nat lt l) (hx : 0 ≤ x) (hy : 0 ≤ y) (h0 : 0 < vs.length) (h16 : vs.length ≤ 16) (hvs : EvLists led l vs)
    (B : Below A₀ base outer h₀) (F : Fr h₀ L s.heap m) (X : (hd.heap_39 w.params).In h₀) (N : News h₀ L s.heap led) (T : Top hd.view_39 (looseW hd.view_39 []) mean mg mb h₀) (hk : cs.kind = .function) (hd' : dp + 2 < recursionLimit) (hu : un + 300 < cLine)
    (ret : ∀ (z : Addr) (its : List Value) (nz : Nat) (x' : Int) (tx' : Tok) (y' : Int) (ty' : Tok) (n' : Nat) (h' : Heap) (tk' : Nat), EvAll its → its.length ≤ 3 → Stays z (W.listOf its.toArray nz) g → 0 ≤ x' → 0 ≤ y' → Fr h₀ L h' m → News h₀ L h' (g (src x' tx' y' ty' n')) → Q (.ref z) { s with heap := h', toks := tk' }) :
    wpAny (model PySem.Challenge.rw_nu0121_01.row.prog w) (ktrTop dp un gd cn cs L a ccd cl outer) (call (.ref 84) [.ref l, .ref lt]) Q E s :=
  one_at U hm hne hx hy h0 h16 B F X N T hk hd' hu fun r x' tx' y' ty' n' h' tk' e1 e2 e3 F' N' => by
    obtain ⟨z, its, nz, rfl, hz, hzl, he, hlen⟩ := hvs.one e1
    exact ret z its nz x' tx' y' ty' n' h' tk' he hlen (fun o' => upd_keep U o' _ hz hzl) e2 e3 F' N'
theorem pool_at {vs : List Value} {ns : List Int} {news : Led} (hi : IntsAre vs ns) (hfit : ns.length < 2 ^ 62)
    (B : Below A₀ base outer h₀) (F : Fr h₀ L s.heap m) (X : (hd.heap_39 w.params).In h₀) (N : News h₀ L s.heap news) (T : Top hd.view_39 (looseW hd.view_39 []) mean mg mb h₀) (hk : cs.kind = .function) (hdp : dp + 1 < recursionLimit) (hun : un + 200 < cLine) (hl : base.IsList l vs.toArray)
    (hret : ∀ (r : Addr) (a : Int) (ta : Tok) (b : Int) (tb : Tok) (n : Nat) (h' : Heap) (tk' : Nat), 0 ≤ a → 0 ≤ b → (∀ p ∈ news, p.1 < r) → Fr h₀ L h' m → News h₀ L h' ((r, src a ta b tb n) :: news) → Q (.ref r) { s with heap := h', toks := tk' }) :
    wpAny (model PySem.Challenge.rw_nu0121_01.row.prog w) (ktrTop dp un gd cn cs L a ccd cl outer) (call (.ref 70) [.ref l]) Q E s :=
  pool_cut l vs ns news hi hfit w mean mg mb dp un gd cn cs a ccd cl outer A₀ base h₀ L m s Q E B F X N T hk hdp hun hl hret
end
end -- T3
section -- T4
open PySem PySem.W PyProof.Rows PySem.Calls
theorem ev_mem {us : List Value} {v : Value} (h : v ∈ us) (e : EvAll us) : Ev v := e.all v h
theorem upd_is {l : Addr} {o : Obj} {led : Led} {g : Obj → Led} (U : UpdF l o led g) : led = g o := by
  obtain ⟨pre, post, rfl, hg, _, _⟩ := U.split
  rw [hg]
section
variable {prog : Program} {w : World} {A : Around} {h₀ : Heap} {L l : Addr} {m : Str → Option Value} {env : Env} {elt : PySem.Expr} {xn : Str} {scope : Scope} {cl : List (Str × Addr)} {s : Shared} {S : Led → Prop} {Fin : List Value → Led → Prop} {led : Led} {g : Obj → Led} {x y : Int} {tx ty : Tok} {n : Nat}
theorem comp_ev {cnt : Nat} {a0 : Int} (_ : (l, src x tx y ty n) ∈ led) (U : UpdF l (src x tx y ty n) led g) (hx : 0 ≤ x) (hy : 0 ≤ y)
    (turn : ∀ x tx y ty n k t I oI C oC D m₂ ys h tk (E' : Value → Shared → Prop), 0 ≤ x → 0 ≤ y → LCg.NsObj oC m₂ → m₂ xn = some (.int k t) → Fr h₀ L h m → News h₀ L h ((I, oI) :: (C, oC) :: (D, LCg.lst ys) :: g (src x tx y ty n)) → LCg.Off3 I C D (g (src x tx y ty n)) → ((@Ne Nat I C) ∧ (@Ne Nat I D) ∧ (@Ne Nat C D)) →
      wpAny (model prog w) A (eval elt (compEnvC scope cl C env)) (LCg.CompEnd h₀ L m { s with heap := h, toks := tk } I oI C oC D (LCg.lst ys) S (fun v news' => Ev v ∧ ∃ x' tx' y' ty' n', 0 ≤ x' ∧ 0 ≤ y' ∧ news' = g (src x' tx' y' ty' n'))) E' { s with heap := h, toks := tk })
    (fin : ∀ ys x tx y ty n, ys.length = cnt → (∀ v ∈ ys, Ev v) → 0 ≤ x → 0 ≤ y → Fin ys (g (src x tx y ty n))) :
    LCg.CompRest prog w A h₀ L m env elt xn scope cl s S (fun i v => ∃ t, v = .int (a0 + (i : Int)) t) Fin cnt 0 [] led := by
  rw [upd_is U]
  have key : ∀ (j i : Nat) (ys : List Value) (x : Int) (tx : Tok) (y : Int) (ty : Tok) (n : Nat), i + j = cnt → ys.length = i → (∀ v ∈ ys, Ev v) → 0 ≤ x → 0 ≤ y →
      LCg.CompRest prog w A h₀ L m env elt xn scope cl s S (fun i v => ∃ t, v = .int (a0 + (i : Int)) t) Fin j i ys (g (src x tx y ty n)) := by
    intro j
    induction j with
    | zero =>
      intro i ys x tx y ty n hi hl hv hx hy
      exact LCg.CompRest.zero (fin ys x tx y ty n (by omega) hv hx hy)
    | succ j ih =>
      intro i ys x tx y ty n hi hl hv hx hy
      refine LCg.CompRest.succ ?_
      intro v I oI C oC D m₂ h tk E' hp hC hxn F N off ne
      obtain ⟨t, rfl⟩ := hp
      refine wpAny_mono (turn x tx y ty n _ t I oI C oC D m₂ ys h tk E' hx hy hC hxn F N off ne) (fun v s₂ hq => ?_) fun _ _ e => e
      obtain ⟨h', tk', nw, e, F', N', off', hS, hev, x', tx', y', ty', n', hx', hy', rfl⟩ := hq
      refine ⟨h', tk', _, e, F', N', off', hS, ih (i + 1) (ys ++ [v]) x' tx' y' ty' n' (by omega) (by rw [List.length_append, hl]; rfl) (fun u hu => ?_) hx' hy'⟩
      rcases List.mem_append.mp hu with hu | hu
      · exact hv u hu
      · rw [List.mem_singleton.mp hu]; exact hev
  exact key cnt 0 [] x tx y ty n (by omega) rfl (fun _ h => nomatch h) hx hy

theorem add_ev {E : Value → Shared → Prop} {Q : Value → Shared → Prop} {z D : Addr} {its ys : List Value} {nz ny : Nat} (F : Fr h₀ L s.heap m) (N : News h₀ L s.heap led) (hz : (z, W.listOf its.toArray nz) ∈ led) (hD : (D, W.listOf ys.toArray ny) ∈ led)
    (h3 : its.length ≤ 3) (h10 : ys.length ≤ 10) (he : EvAll its) (hy : ∀ v ∈ ys, Ev v)
    (h : ∀ (R : Addr) (row : List Value) (h' : Heap), (∀ v ∈ row, Ev v) → Fr h₀ L h' m → News h₀ L h' ((R, W.listOf row.toArray 0) :: led) → (∀ p ∈ led, p.1 < R) → Q (.ref R) { s with heap := h' }) :
    wpAny (model prog w) A (binaryOp .Add (.ref z) (.ref D)) Q E s := by
  refine add_arrays F N (N.isList hz) (N.isList hD) (fun h' F' N' => h _ (its ++ ys) h' (fun v hv => ?_) F' N' fun p hp => Heap.lt_size (N p hp).1) (by rw [List.size_toArray, List.size_toArray, PySem.sizeLine_eq]; omega)
  rcases List.mem_append.mp hv with hv | hv
  · exact he.all v hv
  · exact hy v hv
end
end -- T4
section -- T5
open PySem PySem.W PyProof.Rows PySem.Calls
section
variable {prog : Program} {w : World} {A : Around} {E : Value → Shared → Prop} {s : Shared} {env : Env} {h₀ : Heap} {body : List Stmt} {Q : Flow → Shared → Prop}
theorem row_loop {l a0 : Addr} {row : List Value} {nn : Nat} {m₀ : Str → Option Value} {led : Led} {t0 : Tok}
    (hh : A.handled = none) (hl : (l, W.listOf row.toArray nn) ∈ led) (hev : ∀ v ∈ row, Ev v) (F : Fr h₀ env.locals s.heap m₀) (N : News h₀ env.locals s.heap led) (hm : m₀ "model" = some (.ref a0)) (h0 : (a0, tup [.str "closed" t0]) ∈ led)
    (turn : ∀ (e : Str) (te : Tok) (md : Md) (a : Addr) (vs : List Value) (u : Str → Option Value) (led2 : Led) (h : Heap) (tk : Nat) (R : Flow → Shared → Prop), e ∈ evs → MdIs md vs → (a, tup vs) ∈ led2 →
      Fr h₀ env.locals h (fun y => if y = "event" then some (.str e te) else if y = "model" then some (.ref a) else u y) → News h₀ env.locals h led2 →
      (∀ (h' : Heap) (tk' : Nat) (m' : Str → Option Value) (news' : Led) (md' : Md) (a' : Addr) (vs' : List Value), Fr h₀ env.locals h' m' → News h₀ env.locals h' news' → m' "model" = some (.ref a') → MdIs md' vs' → (a', tup vs') ∈ news' → (a' = a ∨ ∀ p ∈ led2, p.1 ≠ a') → (∀ p ∈ led2, p ∈ news') → R .next { s with heap := h', toks := tk' }) →
      wpAny (model prog w) A (execs body env) R E { s with heap := h, toks := tk })
    (done : ∀ (m₁ : Str → Option Value) (led1 : Led) (h : Heap) (tk : Nat), Fr h₀ env.locals h m₁ → News h₀ env.locals h led1 → Q .next { s with heap := h, toks := tk }) :
    wpAny (model prog w) A (pyIter (.ref l)) (fun it s₂ => LoopAtV prog w A h₀ env "event" body Q E it s₂) E s := by
  refine kdl_iter (fun _ m nx => ∃ md a vs, m "model" = some (.ref a) ∧ MdIs md vs ∧ (a, tup vs) ∈ nx) hh hl F N ⟨.closed, a0, _, hm, .closed t0, h0⟩ ?_ ?_
  · rintro i v m₁ news₁ h tk own hv hoff hl1 ⟨md, a, vs, hma, hmd, ha⟩ F₁ N₁
    obtain ⟨e, te, rfl, he⟩ := hev v (List.mem_of_getElem? hv)
    have e1 : (fun y : Str => if y = ("event" : Str) then some (Value.str e te) else m₁ y) = fun y => if y = ("event" : Str) then some (.str e te) else if y = ("model" : Str) then some (.ref a) else m₁ y := by
      funext y
      by_cases h1 : y = ("event" : Str)
      · rw [if_pos h1, if_pos h1]
      · rw [if_neg h1, if_neg h1]
        by_cases h2 : y = ("model" : Str)
        · rw [if_pos h2, h2, hma]
        · rw [if_neg h2]
    rw [e1] at F₁
    refine turn e te md a vs m₁ (news₁ ++ own) h tk _ he hmd (List.mem_append_left _ ha) F₁ N₁ ?_
    intro h' tk' m' news' md' a' vs' F' N' hm' hmd' hmem hfr hsub
    refine ⟨h', tk', m', news', [(l, W.listOf row.toArray nn), (a', tup vs')], rfl, F', N', ?_, fun p hp => hsub p (List.mem_append_right _ hp), ?_, .head _, md', a', vs', hm', hmd', .tail _ (.head _)⟩
    · intro p hp
      rcases List.mem_cons.mp hp with rfl | hp
      · exact hsub _ (List.mem_append_left _ hl1)
      · rw [List.mem_singleton.mp hp]; exact hmem
    · intro p hp b hb
      rcases List.mem_cons.mp hb with rfl | hb
      · exact hoff p hp _ (List.mem_map.mpr ⟨_, hl1, rfl⟩)
      · rw [List.mem_singleton.mp hb]
        rcases hfr with rfl | hfr
        · exact hoff p hp _ (List.mem_map.mpr ⟨_, ha, rfl⟩)
        · exact hfr p (List.mem_append_right _ hp)
  · rintro m₁ news₁ h tk _ F₁ N₁
    exact done m₁ news₁ h tk F₁ N₁
end
end -- T5
section -- T6
open PySem PySem.W PyProof.Rows PySem.Calls
/-! the plain law -/
def allMd : List Md := [.closed, .listen, .synSent, .synRcvd, .estab, .fin1, .fin2, .closeW, .closing, .lastAck, .timeW]
theorem all_md (md : Md) : md ∈ allMd := by cases md <;> simp [allMd]
theorem follow_all : (allMd.all fun md => evs.all fun e => follow md.name e == (behind md e).map Md.name) = true := by decide +kernel
theorem follow_ok (md : Md) {e : Str} (he : e ∈ evs) : follow md.name e = (behind md e).map Md.name := by
  have h := List.all_eq_true.mp (List.all_eq_true.mp follow_all md (all_md md)) e he
  exact eq_of_beq h
theorem follow_none {md : Md} {e : Str} (he : e ∈ evs) (h : behind md e = none) : follow md.name e = none := by rw [follow_ok md he, h]; rfl
theorem follow_some {md md' : Md} {e : Str} (he : e ∈ evs) (h : behind md e = some md') : follow md.name e = some md'.name := by rw [follow_ok md he, h]; rfl
theorem tells_ok (md : Md) : (!PyData.eqv (.list [.bool (maySend md.name), .bool (mayReceive md.name), .bool (isSynchronized md.name), .bool (isSending md.name)])
    (.list [.bool (tells md).1, .bool (tells md).2.1, .bool (tells md).2.2.1, .bool (tells md).2.2.2])) = false := by
  cases md <;> decide +kernel

theorem ne_str_same {prog : Program} {w : World} {A : Around} {E : Value → Shared → Prop} {s : Shared} {x : Str} {t u : Tok} {Q : Value → Shared → Prop} (h : Q (.bool false) s) : wpAny (model prog w) A (compareOp .NotEq (.str x t) (.str x u)) Q E s :=
  PyProof.Rows.ne_str (by have e : (x != x) = false := by simp
                          rw [e]; exact h)
section
variable {k : Nat} {f : Addr} {vs : List Value} {news : Led}
    {w : World} {mean : ExcName → Option Value} {mg mb : Str → Option Value} {dp un : Nat} {gd : Option (List Code)} {cn : Str} {cs : Scope} {a : Addr} {ccd : Value} {cl : List (Str × Addr)} {outer : List Env} {A₀ : Around} {base h₀ : Heap} {L : Addr} {m : Str → Option Value} {s : Shared} {Q E : Value → Shared → Prop}
theorem Cut.useNone {o : Option Str} (h : o = none) (C : Cut k f vs news fun r nw => IsOpt o r ∧ nw = news)
    (B : Below A₀ base outer h₀) (F : Fr h₀ L s.heap m) (X : (hd.heap_39 w.params).In h₀) (N : News h₀ L s.heap news) (T : Top hd.view_39 (looseW hd.view_39 []) mean mg mb h₀) (hk : cs.kind = .function) (hd' : dp + k < recursionLimit) (hu : un + 100 + 100 * k < cLine)
    (ret : ∀ (h' : Heap) (tk' : Nat), Fr h₀ L h' m → News h₀ L h' news → Q .none { s with heap := h', toks := tk' }) :
    wpAny (model PySem.Challenge.rw_nu0121_01.row.prog w) (ktrTop dp un gd cn cs L a ccd cl outer) (call (.ref f) vs) Q E s :=
  C.use B F X N T hk hd' hu fun r nw h' tk' F' N' p => by
    obtain ⟨p, rfl⟩ := p
    rw [h] at p
    have e : r = .none := p
    rw [e]
    exact ret h' tk' F' N'
theorem Cut.useSome {o : Option Str} {y : Str} (h : o = some y) (C : Cut k f vs news fun r nw => IsOpt o r ∧ nw = news)
    (B : Below A₀ base outer h₀) (F : Fr h₀ L s.heap m) (X : (hd.heap_39 w.params).In h₀) (N : News h₀ L s.heap news) (T : Top hd.view_39 (looseW hd.view_39 []) mean mg mb h₀) (hk : cs.kind = .function) (hd' : dp + k < recursionLimit) (hu : un + 100 + 100 * k < cLine)
    (ret : ∀ (t : Tok) (h' : Heap) (tk' : Nat), Fr h₀ L h' m → News h₀ L h' news → Q (.str y t) { s with heap := h', toks := tk' }) :
    wpAny (model PySem.Challenge.rw_nu0121_01.row.prog w) (ktrTop dp un gd cn cs L a ccd cl outer) (call (.ref f) vs) Q E s :=
  C.use B F X N T hk hd' hu fun r nw h' tk' F' N' p => by
    obtain ⟨p, rfl⟩ := p
    rw [h] at p
    obtain ⟨t, e⟩ : ∃ t, r = .str y t := p
    rw [e]
    exact ret t h' tk' F' N'
theorem Cut.useTells {md : Md} (C : Cut k f vs news fun r nw => ∃ l n, r = .ref l ∧ nw = (l, W.listOf #[.bool (tells md).1, .bool (tells md).2.1, .bool (tells md).2.2.1, .bool (tells md).2.2.2] n) :: news)
    (B : Below A₀ base outer h₀) (F : Fr h₀ L s.heap m) (X : (hd.heap_39 w.params).In h₀) (N : News h₀ L s.heap news) (T : Top hd.view_39 (looseW hd.view_39 []) mean mg mb h₀) (hk : cs.kind = .function) (hd' : dp + k < recursionLimit) (hu : un + 100 + 100 * k < cLine)
    (ret : ∀ (l : Addr) (n : Nat) (h' : Heap) (tk' : Nat), Fr h₀ L h' m → News h₀ L h' ((l, W.listOf #[.bool (tells md).1, .bool (tells md).2.1, .bool (tells md).2.2.1, .bool (tells md).2.2.2] n) :: news) → Q (.ref l) { s with heap := h', toks := tk' }) :
    wpAny (model PySem.Challenge.rw_nu0121_01.row.prog w) (ktrTop dp un gd cn cs L a ccd cl outer) (call (.ref f) vs) Q E s :=
  C.use B F X N T hk hd' hu fun r nw h' tk' F' N' p => by
    obtain ⟨l, n, rfl, rfl⟩ := p
    exact ret l n h' tk' F' N'
end
end -- T6
section -- T7
open PySem PySem.W PyProof.Rows PySem.Calls
theorem or_weak {a b : Addr} {led all : Led} (h : b = a ∨ ∀ p ∈ all, p.1 ≠ b) (sub : ∀ p ∈ led, p ∈ all) : b = a ∨ ∀ p ∈ led, p.1 ≠ b := h.imp_right fun h p hp => h p (sub p hp)
/-- what a turn of the row's loop owes -/
def TurnEnd (h₀ : Heap) (L : Addr) (led : Led) (a : Addr) (s : Shared) (R : Flow → Shared → Prop) : Prop :=
  ∀ (h' : Heap) (tk' : Nat) (m' : Str → Option Value) (news' : Led) (md' : Md) (a' : Addr) (vs' : List Value), Fr h₀ L h' m' → News h₀ L h' news' → m' "model" = some (.ref a') → MdIs md' vs' → (a', tup vs') ∈ news' → (a' = a ∨ ∀ p ∈ led, p.1 ≠ a') → (∀ p ∈ led, p ∈ news') → R .next { s with heap := h', toks := tk' }
theorem TurnEnd.use {h₀ : Heap} {L : Addr} {led : Led} {a : Addr} {s : Shared} {R : Flow → Shared → Prop} (h : TurnEnd h₀ L led a s R) {h' : Heap} {tk' : Nat} {m' : Str → Option Value} {news' : Led} {md' : Md} {a' : Addr} {vs' : List Value}
    (F : Fr h₀ L h' m') (N : News h₀ L h' news') (hm : m' "model" = some (.ref a')) (hv : MdIs md' vs') (hi : (a', tup vs') ∈ news') (hf : a' = a ∨ ∀ p ∈ led, p.1 ≠ a') (hs : ∀ p ∈ led, p ∈ news') : R .next { s with heap := h', toks := tk' } := h _ _ _ _ _ _ _ F N hm hv hi hf hs
section
variable {prog : Program} {w : World} {A : Around} {E : Value → Shared → Prop} {s : Shared} {env : Env} {h₀ : Heap} {L : Addr} {body : List Stmt} {Q : Flow → Shared → Prop}
theorem row_at {l a0 : Addr} {row : List Value} {nn : Nat} {m₀ : Str → Option Value} {led : Led} {t0 : Tok} (hL : env.locals = L)
    (hh : A.handled = none) (hl : (l, W.listOf row.toArray nn) ∈ led) (hev : ∀ v ∈ row, Ev v) (F : Fr h₀ L s.heap m₀) (N : News h₀ L s.heap led) (hm : m₀ "model" = some (.ref a0)) (h0 : (a0, tup [.str "closed" t0]) ∈ led)
    (turn : ∀ (e : Str) (te : Tok) (md : Md) (a : Addr) (vs : List Value) (u : Str → Option Value) (led2 : Led) (h : Heap) (tk : Nat) (R : Flow → Shared → Prop), e ∈ evs → MdIs md vs → (a, tup vs) ∈ led2 →
      Fr h₀ L h (fun y => if y = "event" then some (.str e te) else if y = "model" then some (.ref a) else u y) → News h₀ L h led2 → TurnEnd h₀ L led2 a s R →
      wpAny (model prog w) A (execs body env) R E { s with heap := h, toks := tk })
    (done : ∀ (m₁ : Str → Option Value) (led1 : Led) (h : Heap) (tk : Nat), Fr h₀ L h m₁ → News h₀ L h led1 → Q .next { s with heap := h, toks := tk }) :
    wpAny (model prog w) A (pyIter (.ref l)) (fun it s₂ => LoopAtV prog w A h₀ env "event" body Q E it s₂) E s := by
  subst hL
  exact row_loop hh hl hev F N hm h0 (fun e te md a vs u led2 h tk R h1 h2 h3 F' N' hR => turn e te md a vs u led2 h tk R h1 h2 h3 F' N' hR) done
end
end -- T7
end Mine
open Mine
section
local macro_rules | `(tactic| walk_at "PAD") => `(tactic| fail "pad")
local macro_rules | `(tactic| walk_at "PAD") => `(tactic| fail "pad")
local macro_rules | `(tactic| walk_at "PAD") => `(tactic| fail "pad")
local macro_rules | `(tactic| walk_at "PAD") => `(tactic| fail "pad")
local macro_rules | `(tactic| walk_at "PAD") => `(tactic| fail "pad")
local macro_rules | `(tactic| walk_at "PAD") => `(tactic| fail "pad")
local macro_rules | `(tactic| walk_at "PAD") => `(tactic| fail "pad")
local macro_rules | `(tactic| walk_at "PAD") => `(tactic| fail "pad")
local macro_rules | `(tactic| walk_at "PAD") => `(tactic| fail "pad")
local macro_rules | `(tactic| walk_at "PAD") => `(tactic| fail "pad")
local macro_rules | `(tactic| walk_at "PAD") => `(tactic| fail "pad")
local macro_rules | `(tactic| walk_at "PAD") => `(tactic| fail "pad")
local macro_rules | `(tactic| walk_at "PAD") => `(tactic| fail "pad")
local macro_rules | `(tactic| walk_at "PAD") => `(tactic| fail "pad")
local macro_rules | `(tactic| walk_at "PAD") => `(tactic| fail "pad")
local macro_rules | `(tactic| walk_at "PAD") => `(tactic| fail "pad")
local macro_rules | `(tactic| walk_at "PAD") => `(tactic| fail "pad")
local macro_rules | `(tactic| walk_at "PAD") => `(tactic| fail "pad")
local macro_rules | `(tactic| walk_at "PAD") => `(tactic| fail "pad")
local macro_rules | `(tactic| walk_at "PAD") => `(tactic| fail "pad")
local macro_rules | `(tactic| walk_at "PAD") => `(tactic| fail "pad")
local macro_rules | `(tactic| walk_at "PAD") => `(tactic| fail "pad")
local macro_rules | `(tactic| walk_at "PAD") => `(tactic| fail "pad")
local macro_rules | `(tactic| walk_at "PAD") => `(tactic| fail "pad")
local macro_rules | `(tactic| walk_at "PAD") => `(tactic| fail "pad")
local macro_rules | `(tactic| walk_at "PAD") => `(tactic| fail "pad")
local macro_rules | `(tactic| walk_at "PAD") => `(tactic| fail "pad")
local macro_rules | `(tactic| walk_at "PAD") => `(tactic| fail "pad")
local macro_rules | `(tactic| walk_at "PAD") => `(tactic| fail "pad")
local macro_rules | `(tactic| walk_at "PAD") => `(tactic| fail "pad")
local macro_rules | `(tactic| walk_at "PAD") => `(tactic| fail "pad")
local macro_rules | `(tactic| walk_at "PAD") => `(tactic| fail "pad")
local macro_rules | `(tactic| walk_at "PAD") => `(tactic| fail "pad")
local macro_rules | `(tactic| walk_at "PAD") => `(tactic| fail "pad")
local macro_rules | `(tactic| walk_at "PAD") => `(tactic| fail "pad")
local macro_rules | `(tactic| walk_at "PAD") => `(tactic| fail "pad")
local macro_rules | `(tactic| walk_at "PAD") => `(tactic| fail "pad")
local macro_rules | `(tactic| walk_at "PAD") => `(tactic| fail "pad")
local macro_rules | `(tactic| walk_at "PAD") => `(tactic| fail "pad")
local macro_rules | `(tactic| walk_at "PAD") => `(tactic| fail "pad")
local macro_rules | `(tactic| walk_at "PAD") => `(tactic| fail "pad")
local macro_rules | `(tactic| walk_at "PAD") => `(tactic| fail "pad")
local macro_rules | `(tactic| walk_at "PAD") => `(tactic| fail "pad")
local macro_rules | `(tactic| walk_at "PAD") => `(tactic| fail "pad")
local macro_rules | `(tactic| walk_at "PAD") => `(tactic| fail "pad")
local macro_rules | `(tactic| walk_at "PAD") => `(tactic| fail "pad")
local macro_rules | `(tactic| walk_at "PAD") => `(tactic| fail "pad")
local macro_rules | `(tactic| walk_at "PAD") => `(tactic| fail "pad")
local macro_rules | `(tactic| walk_at "PAD") => `(tactic| fail "pad")
local macro_rules | `(tactic| walk_at "PAD") => `(tactic| fail "pad")
local macro_rules | `(tactic| walk_at "PAD") => `(tactic| fail "pad")
local macro_rules | `(tactic| walk_at "PAD") => `(tactic| fail "pad")
local macro_rules | `(tactic| walk_at "PAD") => `(tactic| fail "pad")
local macro_rules | `(tactic| walk_at "PAD") => `(tactic| fail "pad")
local macro_rules | `(tactic| walk_at "PAD") => `(tactic| fail "pad")
local macro_rules | `(tactic| walk_at "PAD") => `(tactic| fail "pad")
local macro_rules | `(tactic| walk_at "PAD") => `(tactic| fail "pad")
local macro_rules | `(tactic| walk_at "PAD") => `(tactic| fail "pad")
local macro_rules | `(tactic| walk_at "PAD") => `(tactic| fail "pad")
local macro_rules | `(tactic| walk_at "PAD") => `(tactic| fail "pad")
local macro_rules | `(tactic| walk_at "PAD") => `(tactic| fail "pad")
local macro_rules | `(tactic| walk_at "PAD") => `(tactic| fail "pad")
local macro_rules | `(tactic| walk_at "PAD") => `(tactic| fail "pad")
local macro_rules | `(tactic| walk_at "PAD") => `(tactic| fail "pad")
local macro_rules | `(tactic| walk_at "PAD") => `(tactic| fail "pad")
local macro_rules | `(tactic| walk_at "PAD") => `(tactic| fail "pad")
local macro_rules | `(tactic| walk_at "PAD") => `(tactic| fail "pad")
local macro_rules | `(tactic| walk_at "PAD") => `(tactic| fail "pad")
local macro_rules | `(tactic| walk_at "PAD") => `(tactic| fail "pad")
local macro_rules | `(tactic| walk_at "PAD") => `(tactic| fail "pad")
local macro_rules | `(tactic| walk_at "PAD") => `(tactic| fail "pad")
local macro_rules | `(tactic| walk_at "PAD") => `(tactic| fail "pad")
local macro_rules | `(tactic| walk_at "PAD") => `(tactic| fail "pad")
local macro_rules | `(tactic| walk_at "PAD") => `(tactic| fail "pad")
local macro_rules | `(tactic| walk_at "PAD") => `(tactic| fail "pad")
local macro_rules | `(tactic| walk_at "PAD") => `(tactic| fail "pad")
local macro_rules | `(tactic| walk_at "PAD") => `(tactic| fail "pad")
local macro_rules | `(tactic| k_mem) => `(tactic| first | with_reducible exact List.mem_cons_self | with_reducible assumption | (refine List.mem_cons_of_mem _ ?_; k_mem))
local macro_rules | `(tactic| walk_at "compareOp In ref ref") => `(tactic| (k_here; (with_reducible show wpAny _ _ (compareOp CmpOp.In (Value.ref _) (Value.ref _)) _ _ _); k_dflt first
  | (refine' in_listB true ?a ?b ?c ?d ?e ?u ?v ?_; (case a => ked_read); (case b => ked_read); (case c => decide +kernel); (case d => decide +kernel); (case e => decide +kernel); (case u => ktr_units); (case v => decide +kernel); k_whole)
  | (refine' in_listB false ?a ?b ?c ?d ?e ?u ?v ?_; (case a => ked_read); (case b => ked_read); (case c => decide +kernel); (case d => decide +kernel); (case e => decide +kernel); (case u => ktr_units); (case v => decide +kernel); k_whole)))
local macro_rules | `(tactic| walk_at "compareOp Eq ref ref") => `(tactic| (k_here; (with_reducible show wpAny _ _ (compareOp CmpOp.Eq (Value.ref _) (Value.ref _)) _ _ _); k_dflt first
  | (refine' eq_dataB true ?a ?b ?c ?d ?u ?v ?_; (case a => ked_read); (case b => ked_read); (case c => decide +kernel); (case d => decide +kernel); (case u => ktr_units); (case v => decide +kernel); k_whole)
  | (refine' eq_dataB false ?a ?b ?c ?d ?u ?v ?_; (case a => ked_read); (case b => ked_read); (case c => decide +kernel); (case d => decide +kernel); (case u => ktr_units); (case v => decide +kernel); k_whole)))
local macro_rules | `(tactic| walk_at "subscriptTail Name Slice ref ref") => `(tactic| (k_here; (with_reducible show wpAny _ _ (subscriptTail _ (PySem.Expr.Slice _ none none _) (Value.ref _) (Value.ref _)) _ _ _); k_dflt (refine' slice_tail ?F ?N ?t ?_ ?s ?g ?z; (case F => k_asm); (case N => k_asm); (case t => exact News.isTup (by k_asm) (by k_mem)); (case s => with_unfolding_all rfl); (case g => (intro _; with_unfolding_all rfl)); (case z => size_fits); k_whole); intro D' h' F' N' l1; (try k_lt l1); (try k_sweep)))
local macro_rules | `(tactic| walk_at "ite") => `(tactic| (k_closed; first
  | (with_reducible refine' ite_pos ?hc ?_; (case hc => with_unfolding_all decide +kernel))
  | (with_reducible refine' ite_neg ?hc ?_; (case hc => with_unfolding_all decide +kernel))))
local macro_rules | `(tactic| walk_at "call ref") => `(tactic| (k_here; k_dflt (refine' pool_at ?oi ?ot ?oB ?oF ?oX ?oN ?oT ?ok ?od ?ou ?ol ?_; (case oB => k_asm); (case oF => k_asm); (case oX => k_asm); (case oN => k_asm); (case oT => k_asm); (case ok => first | rfl | assumption); (case od => ktr_room); (case ou => ktr_units); (case ol => k_asm); (case oi => l_ints); (case ot => omega); k_whole); intro r9' a9' ta9' b9' tb9' n9' h9' tk9' ha9' hb9' l19' F9' N9'; (try k_lt l19'); (try dsimp only); (try k_fold)))
local macro_rules | `(tactic| walk_at "call ref") => `(tactic| (k_here; k_dflt (refine' take_at ?oU ?ox ?oy ?o0 ?o16 ?oB ?oF ?oX ?oN ?oT ?ok ?od ?ou ?_; (case oB => k_asm); (case oF => k_asm); (case oX => k_asm); (case oN => k_asm); (case oT => k_asm); (case ok => first | rfl | assumption); (case od => ktr_room); (case ou => ktr_units); (case oU => k_updF); (case ox => assumption); (case oy => assumption); (case o0 => decide); (case o16 => decide); k_whole); intro q9' t9' a9' ta9' b9' tb9' n9' h9' tk9' hq9' hp9' ha9' hb9' F9' N9'; (try dsimp only); (try k_fold)))
local macro_rules | `(tactic| walk_at "call ref") => `(tactic| (k_here; k_dflt (refine' one_at ?oU ?om ?on ?ox ?oy ?o0 ?o16 ?oB ?oF ?oX ?oN ?oT ?ok ?od ?ou ?_; (case oB => k_asm); (case oF => k_asm); (case oX => k_asm); (case oN => k_asm); (case oT => k_asm); (case ok => first | rfl | assumption); (case od => ktr_room); (case ou => ktr_units); (case oU => k_updF); (case om => k_mem); (case on => k_ne); (case ox => assumption); (case oy => assumption); (case o0 => exact Nat.le_of_ble_eq_true rfl); (case o16 => exact Nat.le_of_ble_eq_true rfl); k_whole); intro z9' a9' ta9' b9' tb9' n9' h9' tk9' hz9' ha9' hb9' F9' N9'; (try dsimp only); (try k_fold)))
local macro_rules | `(tactic| walk_at "call ref") => `(tactic| (k_here; (fail_if_success (with_reducible rename InElt _ _ => kE9)); k_dflt (refine' one_list ?oU ?om ?on ?ox ?oy ?o0 ?o16 ?ov ?oB ?oF ?oX ?oN ?oT ?ok ?od ?ou ?_; (case oB => k_asm); (case oF => k_asm); (case oX => k_asm); (case oN => k_asm); (case oT => k_asm); (case ok => first | rfl | assumption); (case od => ktr_room); (case ou => ktr_units); (case oU => k_updF); (case om => k_mem); (case on => k_ne); (case ox => assumption); (case oy => assumption); (case o0 => exact Nat.le_of_ble_eq_true rfl); (case o16 => exact Nat.le_of_ble_eq_true rfl); (case ov => repeat' (first | exact EvLists.nil | refine EvLists.cons (by k_mem) (by k_ne) (by (repeat' (first | exact EvAll.nil | refine EvAll.cons (ev_of (by decide +kernel)) ?_))) (by exact Nat.le_of_ble_eq_true rfl) ?_)); k_whole); intro z9' its9' nz9' a9' ta9' b9' tb9' n9' h9' tk9' he9' hl9' hz9' ha9' hb9' F9' N9'; (try dsimp only); (try k_fold)))
local macro_rules | `(tactic| walk_at "CompSrc") => `(tactic| (k_here; k_dflt (refine LCg.CompSrc.range (by rfl) (by k_asm) (by k_asm) (by assumption) (by exact small_one (by omega) (by omega) (by omega) (by omega)) (by exact rangeSize_nat _ _) (by rw [PySem.sizeLine_eq]; omega) ?_; intro g'; (refine' comp_ev ?cm ?cU ?cx ?cy ?_ ?_; (case cm => k_mem); (case cU => k_updF); (case cx => assumption); (case cy => assumption)); (all_goals intros); (all_goals (try (simp only [LCg.Off3, and_true] at *))))))
local macro_rules | `(tactic| walk_at "binaryOp Add ref ref") => `(tactic| (k_here; (with_reducible show wpAny _ _ (binaryOp _ (Value.ref _) (Value.ref _)) _ _ _); k_dflt ((have hst9 := Stays.get (by assumption)); refine' add_ev ?oF ?oN (List.mem_cons_of_mem _ (hst9 _)) ?om ?ol ?oy ?oe ?oz ?_; (case oF => k_asm); (case oN => k_asm); (case om => k_mem); (case ol => assumption); (case oy => omega); (case oe => assumption); (case oz => assumption)); intro R9' row9' h9' he9' F9' N9' l19'; (try k_lt l19')))
local macro_rules | `(tactic| walk_at "And") => `(tactic| ((with_reducible show Ev _ ∧ _); exact ⟨ev_mem (by assumption) (by (repeat' (first | exact EvAll.nil | refine EvAll.cons (ev_of (by decide +kernel)) ?_))), _, _, _, _, _, by assumption, by assumption, rfl⟩))
local macro_rules | `(tactic| walk_at "CompEnd") => `(tactic| (k_here; k_dflt (refine' LCg.CompEnd.intro ?eF ?eN _ (fun _ hp => hp) ?eo ?es ?_; (case eF => k_asm); (case eN => k_asm); (case es => exact True.intro); (case eo => (simp only [LCg.Off3, and_true]; assumption)))))
local macro_rules | `(tactic| walk_at "call ref") => `(tactic| (k_here; k_dflt (refine' Cut.useS (name_cut _ _ _ _ ?v ?m) ?B ?F ?X ?N ?T ?hk ?hd ?hu ?_; (case N => k_asm); (case B => k_asm); (case F => k_asm); (case X => k_asm); (case T => k_asm); (case hk => first | rfl | assumption); (case hd => ktr_room); (case hu => ktr_units); (case m => k_mem); (case v => assumption); all_goals (k_whole; intros; (try dsimp only); (try k_fold)))))
local macro_rules | `(tactic| walk_at "call ref") => `(tactic| (k_here; k_dflt (refine' Cut.useB (may_send_cut _ _ _) ?B ?F ?X ?N ?T ?hk ?hd ?hu ?_; (case N => k_asm); (case B => k_asm); (case F => k_asm); (case X => k_asm); (case T => k_asm); (case hk => first | rfl | assumption); (case hd => ktr_room); (case hu => ktr_units); all_goals (k_whole; intros; (try dsimp only); (try k_fold)))))
local macro_rules | `(tactic| walk_at "call ref") => `(tactic| (k_here; k_dflt (refine' Cut.useB (may_receive_cut _ _ _) ?B ?F ?X ?N ?T ?hk ?hd ?hu ?_; (case N => k_asm); (case B => k_asm); (case F => k_asm); (case X => k_asm); (case T => k_asm); (case hk => first | rfl | assumption); (case hd => ktr_room); (case hu => ktr_units); all_goals (k_whole; intros; (try dsimp only); (try k_fold)))))
local macro_rules | `(tactic| walk_at "call ref") => `(tactic| (k_here; k_dflt (refine' Cut.useB (is_synchronized_cut _ _ _) ?B ?F ?X ?N ?T ?hk ?hd ?hu ?_; (case N => k_asm); (case B => k_asm); (case F => k_asm); (case X => k_asm); (case T => k_asm); (case hk => first | rfl | assumption); (case hd => ktr_room); (case hu => ktr_units); all_goals (k_whole; intros; (try dsimp only); (try k_fold)))))
local macro_rules | `(tactic| walk_at "call ref") => `(tactic| (k_here; k_dflt (refine' Cut.useB (is_sending_cut _ _ _) ?B ?F ?X ?N ?T ?hk ?hd ?hu ?_; (case N => k_asm); (case B => k_asm); (case F => k_asm); (case X => k_asm); (case T => k_asm); (case hk => first | rfl | assumption); (case hd => ktr_room); (case hu => ktr_units); all_goals (k_whole; intros; (try dsimp only); (try k_fold)))))
local macro_rules | `(tactic| walk_at "call ref") => `(tactic| (k_here; k_dflt (refine' Cut.useTells (tells_cut _ _ _ _ ?v ?m) ?B ?F ?X ?N ?T ?hk ?hd ?hu ?_; (case N => k_asm); (case B => k_asm); (case F => k_asm); (case X => k_asm); (case T => k_asm); (case hk => first | rfl | assumption); (case hd => ktr_room); (case hu => ktr_units); (case m => k_mem); (case v => assumption); all_goals (k_whole; intros; (try dsimp only); (try k_fold)))))
local macro_rules | `(tactic| walk_at "call ref") => `(tactic| (k_here; k_dflt (refine' Cut.useMd (behind_cut _ _ _ _ _ _ ?v ?m) ?B ?F ?X ?N ?T ?hk ?hd ?hu ?_ ?_; (case N => k_asm); (case B => k_asm); (case F => k_asm); (case X => k_asm); (case T => k_asm); (case hk => first | rfl | assumption); (case hd => ktr_room); (case hu => ktr_units); (case m => k_mem); (case v => assumption); all_goals (k_whole; intros; (try dsimp only); (try k_fold)))))
local macro_rules | `(tactic| walk_at "call ref") => `(tactic| (k_here; k_dflt (refine' Cut.useNone (follow_none (by assumption) (by assumption)) (follow_cut _ _ _ _ _) ?B ?F ?X ?N ?T ?hk ?hd ?hu ?_; (case N => k_asm); (case B => k_asm); (case F => k_asm); (case X => k_asm); (case T => k_asm); (case hk => first | rfl | assumption); (case hd => ktr_room); (case hu => ktr_units); all_goals (k_whole; intros; (try dsimp only); (try k_fold)))))
local macro_rules | `(tactic| walk_at "call ref") => `(tactic| (k_here; k_dflt (refine' Cut.useSome (follow_some (by assumption) (by assumption)) (follow_cut _ _ _ _ _) ?B ?F ?X ?N ?T ?hk ?hd ?hu ?_; (case N => k_asm); (case B => k_asm); (case F => k_asm); (case X => k_asm); (case T => k_asm); (case hk => first | rfl | assumption); (case hd => ktr_room); (case hu => ktr_units); all_goals (k_whole; intros; (try dsimp only); (try k_fold)))))
local macro_rules | `(tactic| walk_at "compareOp NotEq ref ref") => `(tactic| (k_here; (with_reducible show wpAny _ _ (compareOp CmpOp.NotEq (Value.ref _) (Value.ref _)) _ _ _); k_dflt (refine' ne_dataB false ?a ?b ?c ?d ?u ?v ?_; (case a => ked_read); (case b => ked_read); (case c => rfl); (case d => rfl); (case u => ktr_units); (case v => exact tells_ok _); k_whole)))
local macro_rules | `(tactic| walk_at "compareOp NotEq str str") => `(tactic| (with_reducible refine' ne_str_same ?_))
local macro_rules | `(tactic| walk_at "exec For Name Name cons nil") => `(tactic| (k_here; (rename Fr _ _ _ _ => lF'); (with_unfolding_all refine' For_invVF lF' ?k1 ?k2 ?_; (case k1 => exact rfl); (case k2 => exact rfl); k_whole)))
local macro_rules | `(tactic| walk_at "pyIter ref") => `(tactic| (k_here; k_dflt (refine' row_at ?rL ?rh ?rl ?re ?rF ?rN ?rm ?r0 ?_ ?_; (case rL => rfl); (case rh => rfl); (case rN => k_asm); (case rl => k_mem); (case re => assumption); (case rF => k_asm); (case rm => rfl); (case r0 => k_mem); all_goals (intros; (try dsimp only); (try k_fold)))))
set_option maxRecDepth 100000 in
set_option maxHeartbeats 0 in
theorem PySem.Challenge.cw_nu0121_01_holds : PySem.Challenge.rw_nu0121_01.Holds := by
  refine hd ?_
  k_go0
  all_goals try k_fold
  k_steps
  all_goals
    (refine' TurnEnd.use ?tE ?tF ?tN ?tm ?tv ?ti ?tf ?ts
     (case tE => assumption)
     (case tF => k_asm)
     (case tN => k_asm)
     (case tm => rfl)
     (case ti => k_mem)
     (case tv => assumption)
     (case tf => first | exact Or.inl rfl | exact or_weak (by assumption) (by kcj_all))
     (case ts => kcj_all))
end
