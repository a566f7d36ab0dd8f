import PyProof.Rows.All
import Wide.All
import OpenK.AllK
import Wide.FinOn
import Lean
import PySem.Challenge.RW_rh0224_01
open PySem PySem.W PyProof.Rows PySem.Calls PySem.Spec
set_option Elab.async false
set_option linter.unusedSimpArgs false
set_option linter.unusedVariables false
set_option maxRecDepth 100000
namespace Mine
set_option maxHeartbeats 8000000 in
open_top hd for PySem.Challenge.rw_rh0224_01
noncomputable abbrev tupO (l : List Value) : Obj := { cls := .type "tuple", data := .seq l.toArray 0 }
section
variable {prog : Program} {w : World} {A : Around} {E : Value → Shared → Prop} {s : Shared} {h₀ : Heap} {L D b : Addr} {m : Str → Option Value} {news news' : List (Addr × Obj)} {n n2 : Nat}
theorem m_len {l : List Value} {Q : Value → Shared → Prop} (N : News h₀ L s.heap news) (hm : (D, listOf l.toArray n) ∈ news) (hz : l.length ≤ 100000)
    (h : Q (.int (l.length : Int) (s.toks + 1)) { s with toks := s.toks + 1 + 1 }) : wpAny (model prog w) A (call (.builtin "len") [.ref D]) Q E s :=
  len_list ⟨_, (N _ hm).1, rfl, _, rfl⟩ (by simp only [List.size_toArray]; omega) (by simpa using h)
theorem m_lenL {l : List Value} {k : Int} {Q : Value → Shared → Prop} (N : News h₀ L s.heap news) (hm : (D, listOf l.toArray n) ∈ news) (hk : (l.length : Int) = k) (hz : k ≤ 1000)
    (h : Q (.int k (s.toks + 1)) { s with toks := s.toks + 1 + 1 }) : wpAny (model prog w) A (call (.builtin "len") [.ref D]) Q E s := by
  subst hk
  exact m_len N hm (by omega) h
theorem m_pop {p : List Value} {y : Value} {Q : Value → Shared → Prop} (F : Fr h₀ L s.heap m) (N : News h₀ L s.heap news) (U : Upd D (listOf (p ++ [y]).toArray n) (listOf p.toArray (n + 1)) news news')
    (hz : p.length ≤ 100000) (h : ∀ h', Fr h₀ L h' m → News h₀ L h' news' → Q y { s with heap := h' }) : wpAny (model prog w) A (call (.builtin "list.pop") [.ref D]) Q E s :=
  kl_pop F N (kpa_last y p) U (by simp only [List.length_append, List.length_cons, List.length_nil, sizeLine_eq]; omega) h
theorem m_extend {p q : List Value} {Q : Value → Shared → Prop} (F : Fr h₀ L s.heap m) (N : News h₀ L s.heap news) (hb : (b, listOf q.toArray n2) ∈ news) (hne : q.length ≠ 0)
    (U : Upd D (listOf p.toArray n) (listOf (p ++ q).toArray (n + 1)) news news') (hz : p.length ≤ 100000) (hz2 : q.length ≤ 100000)
    (h : ∀ h', Fr h₀ L h' m → News h₀ L h' news' → Q .none { s with heap := h' }) : wpAny (model prog w) A (call (.builtin "list.extend") [.ref D, .ref b]) Q E s :=
  kl_extend F N hb (l := p ++ q) rfl (by simpa using hne) U
    (by simp [Builtin.List.listTooLong, sizeLine_eq]; intros; omega) (by simp [sizeLine_eq]; omega) (by simp [sizeLine_eq]; omega) h
theorem m_extend_nil {p : List Value} {Q : Value → Shared → Prop} (F : Fr h₀ L s.heap m) (N : News h₀ L s.heap news) (hb : (b, listOf ([] : List Value).toArray n2) ∈ news)
    (U : Upd D (listOf p.toArray n) (listOf p.toArray n) news news') (hz : p.length ≤ 100000)
    (h : ∀ h', Fr h₀ L h' m → News h₀ L h' news' → Q .none { s with heap := h' }) : wpAny (model prog w) A (call (.builtin "list.extend") [.ref D, .ref b]) Q E s :=
  kxn_extend F N hb rfl U (by simp [Builtin.List.listTooLong, sizeLine_eq]; intros; omega) (by simp [sizeLine_eq]; omega) (by simp [sizeLine_eq]; omega) h
theorem m_append {p : List Value} {x : Value} {Q : Value → Shared → Prop} (F : Fr h₀ L s.heap m) (N : News h₀ L s.heap news) (U : Upd D (listOf p.toArray n) (listOf (p ++ [x]).toArray (n + 1)) news news')
    (hz : p.length ≤ 100000) (h : ∀ h', Fr h₀ L h' m → News h₀ L h' news' → Q .none { s with heap := h' }) : wpAny (model prog w) A (call (.builtin "list.append") [.ref D, x]) Q E s :=
  append_K (its := p.toArray) F N (by simpa using U) h (by simp [sizeLine_eq]; omega)
theorem m_set {p : List Value} {k : Int} {t : Tok} {v : Value} {Q : Unit → Shared → Prop} (F : Fr h₀ L s.heap m) (N : News h₀ L s.heap news)
    (U : Upd D (listOf p.toArray n) (listOf (p.set k.toNat v).toArray n) news news') (h0 : 0 ≤ k) (h1 : k < p.length) (hz : p.length ≤ 100000)
    (h : ∀ h', Fr h₀ L h' m → News h₀ L h' news' → Q () { s with heap := h' }) : wpAny (model prog w) A (setItem (.ref D) (.int k t) v) Q E s := by
  obtain ⟨pre, post, rfl, rfl, a, c⟩ := U.split
  have z := N (D, listOf p.toArray n) (List.mem_append.mpr (.inr (.head _)))
  refine ki_setAt z.1 h0 (by omega) (by simpa using h1) (h _ (F.change (Heap.SameBut.update ..) z.2.1 z.2.2) ?_)
  exact ki_turn _ N a c (by simp) (by simp)
theorem m_get {p : List Value} {value slice : PySem.Expr} {k : Int} {t : Tok} {v : Value} {Q : Value → Shared → Prop} (N : News h₀ L s.heap news) (hm : (D, listOf p.toArray n) ∈ news) (h0 : 0 ≤ k) (h1 : k < 2 ^ 40) (hv : p[k.toNat]? = some v)
    (h : Q v s) (hs : subscripted slice false (.ref D) (.int k t) = operate [.ref D, .int k t] (getItem (.ref D) (.int k t))) (hg : ∀ r, letTemporaryGo value (.ref D) r = pure ()) :
    wpAny (model prog w) A (subscriptTail value slice (.ref D) (.int k t)) Q E s :=
  item_listL ⟨_, (N _ hm).1, rfl, _, rfl⟩ h0 (by omega) hv h hs hg
theorem m_getT {p : List Value} {value slice : PySem.Expr} {k : Int} {t : Tok} {v : Value} {Q : Value → Shared → Prop} (N : News h₀ L s.heap news) (hm : (D, tupO p) ∈ news) (h0 : 0 ≤ k) (h1 : k < 100) (hv : p[k.toNat]? = some v)
    (h : Q v s) (hs : subscripted slice false (.ref D) (.int k t) = operate [.ref D, .int k t] (getItem (.ref D) (.int k t))) :
    wpAny (model prog w) A (subscriptTail value slice (.ref D) (.int k t)) Q E s := by
  have hl : k.toNat < p.length := by
    rcases Nat.lt_or_ge k.toNat p.length with h | h
    · exact h
    · rw [List.getElem?_eq_none h] at hv; cases hv
  refine item_tupleT (l := p) ⟨_, (N _ hm).1, rfl, _, rfl⟩ (by omega) (by omega) ?_ hv h hs
  unfold seqIndex?
  have hk : k = (k.toNat : Int) := by omega
  generalize k.toNat = j at hk hl
  subst hk
  simp
  omega
theorem m_inTop {K : Frag} {a : Addr} {its : Array Value} {dd : Option Addr} {sl : Array (Option Value)} {ys : List Str} {x : Str} {u : Tok} {b : Bool} {Q : Value → Shared → Prop} (F : Fr h₀ L s.heap m) (X : K.In h₀)
    (hl : K.lookup a = some ⟨.type "tuple", dd, .seq its n, sl⟩) (hi : StrsAre its.toList ys) (hb : ys.any (· == x) = b) (h : Q (.bool b) s) : wpAny (model prog w) A (compareOp .In (.str x u) (.ref a)) Q E s :=
  in_tuple_strs (ys := ys) (tupK (l := its.toList) (X.keeps F.keep) (by simpa using hl)) (by simpa using hi) (by rw [hb]; exact h)
end
noncomputable def off (T : List (Addr × Obj)) (b : Addr) : List (Addr × Obj) := T.filter fun p => !(p.1 == b)
theorem mem_off {T : List (Addr × Obj)} {b : Addr} {p : Addr × Obj} : p ∈ off T b ↔ p ∈ T ∧ p.1 ≠ b := by
  unfold off; rw [List.mem_filter]; simp
theorem off_ne {a b : Addr} {o : Obj} {r r' : List (Addr × Obj)} (h : a ≠ b) (e : off r b = r') : off ((a, o) :: r) b = (a, o) :: r' := by
  unfold off at e ⊢
  rw [List.filter_cons_of_pos (by simp [h]), e]
theorem off_eq {b : Addr} {o : Obj} {r r' : List (Addr × Obj)} (e : off r b = r') : off ((b, o) :: r) b = r' := by
  unfold off at e ⊢
  rw [List.filter_cons_of_neg (by simp), e]
theorem off_all {b : Addr} {T : List (Addr × Obj)} (h : AllLt b T) : off T b = T := by
  unfold off
  refine List.filter_eq_self.mpr fun p hp => ?_
  have := tbn_neAll h p hp
  simp [this]
theorem off_nil {b : Addr} : off [] b = [] := rfl
theorem unr_off {h₀ h' : Heap} {L I : Addr} {it : Obj} {rest : (Str → Option Value) → List (Addr × Obj) → Prop} {s₁ : Shared} {tk : Nat} {m' : Str → Option Value} {l l' : List (Addr × Obj)} (F : Fr h₀ L h' m') (N : News h₀ L h' l) (hI : (I, it) ∈ l) (e : off l I = l') (r : rest m' l') :
    UnrEnd h₀ L s₁ I it rest { s₁ with heap := h', toks := tk } := by
  subst e
  refine UnrEnd.intro F N (off l I) (fun p hp => ?_) (fun p hp => (mem_off.mp hp).2) r
  rcases List.mem_cons.mp hp with rfl | hp
  · exact hI
  · exact (mem_off.mp hp).1
theorem eO_arbno {O : List Value} {sp mk : Addr} {i : Int} (hi : i = (O.length : Int)) : (O ++ [Value.none] ++ [Value.none]).set i.toNat (.ref sp) ++ [Value.ref mk] = O ++ [Value.ref sp, .none, .ref mk] := by
  subst hi
  rw [Int.toNat_natCast]
  have e : O ++ [Value.none] ++ [Value.none] = O ++ Value.none :: [Value.none] := by simp
  rw [e]
  have : ∀ (A : List Value), (A ++ Value.none :: [Value.none]).set A.length (Value.ref sp) = A ++ Value.ref sp :: [Value.none] := by
    intro A
    induction A with
    | nil => rfl
    | cons a A ih => exact congrArg (List.cons a) ih
  rw [this]
  simp
noncomputable abbrev sv (x : String) (t : Tok) : Value := Value.str (Str.ofString x) t
/-- patterns as trees -/
inductive Nd where
  | len1
  | arbno (n : Nd)
  | later (n : Nd) (r : Value)
  | now (n : Nd) (r : Value)
  | altcat (n : Nd)
/-- orders as data -/
inductive Ord where
  | one (k : String) (i : Int)
  | split (i : Nat)
  | jump (i : Nat)
  | mark
  | gain
  | name (r : Value)
  | set (r : Value)
  | done
noncomputable def Nd.depth : Nd → Nat
  | .len1 => 1
  | .arbno n => n.depth + 1
  | .later n _ => n.depth + 1
  | .now n _ => n.depth + 1
  | .altcat n => n.depth + 1
noncomputable def Nd.plain : Nd → Bool
  | .len1 => true
  | .altcat _ => true
  | _ => false
noncomputable def code : Nd → Nat → List Ord
  | .len1, _ => [.one "len" 1]
  | .arbno n, b => [.split (b + 2), .jump (b + 3 + (code n (b + 3)).length + 2), .mark] ++ code n (b + 3) ++ [.gain, .jump b]
  | .later n r, b => [.mark] ++ code n (b + 1) ++ [.name r]
  | .now n r, b => [.mark] ++ code n (b + 1) ++ [.set r]
  | .altcat n, b => [.split (b + 1 + (code n (b + 1)).length + 2)] ++ code n (b + 1) ++ [.one "pos" 2, .jump (b + 1 + (code n (b + 1)).length + 3), .one "pos" 3]
theorem code_length : ∀ (n : Nd) (b : Nat), (code n b).length ≤ 5 * n.depth
  | .len1, _ => by simp [code, Nd.depth]
  | .arbno n, b => by have := code_length n (b + 3); simp [code, Nd.depth]; omega
  | .later n r, b => by have := code_length n (b + 1); simp [code, Nd.depth]; omega
  | .now n r, b => by have := code_length n (b + 1); simp [code, Nd.depth]; omega
  | .altcat n, b => by have := code_length n (b + 1); simp [code, Nd.depth]; omega
inductive NodeIn (T : List (Addr × Obj)) : Value → Nd → Prop
  | len1 {a : Addr} {t1 t2 : Tok} : (a, tupO [sv "len" t1, .int 1 t2]) ∈ T → NodeIn T (.ref a) .len1
  | arbno {a : Addr} {t1 : Tok} {v : Value} {n : Nd} : (a, tupO [sv "arbno" t1, v]) ∈ T → NodeIn T v n → NodeIn T (.ref a) (.arbno n)
  | later {a : Addr} {t1 : Tok} {v r : Value} {n : Nd} : (a, tupO [sv "later" t1, v, r]) ∈ T → NodeIn T v n → NodeIn T (.ref a) (.later n r)
  | now {a : Addr} {t1 : Tok} {v r : Value} {n : Nd} : (a, tupO [sv "now" t1, v, r]) ∈ T → NodeIn T v n → NodeIn T (.ref a) (.now n r)
  | altcat {a c q q2 : Addr} {t1 t2 t3 t4 t5 t6 : Tok} {v : Value} {n : Nd} : (a, tupO [sv "alt" t1, .ref c, .ref q]) ∈ T → (c, tupO [sv "cat" t2, v, .ref q2]) ∈ T → (q, tupO [sv "pos" t3, .int 3 t4]) ∈ T → (q2, tupO [sv "pos" t5, .int 2 t6]) ∈ T →
      n.plain = true → NodeIn T v n → NodeIn T (.ref a) (.altcat n)
theorem NodeIn.mono {T T' : List (Addr × Obj)} (hs : ∀ p ∈ T, p ∈ T') {v : Value} {n : Nd} (h : NodeIn T v n) : NodeIn T' v n := by
  induction h with
  | len1 h => exact .len1 (hs _ h)
  | arbno h _ ih => exact .arbno (hs _ h) ih
  | later h _ ih => exact .later (hs _ h) ih
  | now h _ ih => exact .now (hs _ h) ih
  | altcat h1 h2 h3 h4 h5 _ ih => exact .altcat (hs _ h1) (hs _ h2) (hs _ h3) (hs _ h4) h5 ih
inductive OrdIn (T : List (Addr × Obj)) : Value → Ord → Prop
  | one {a : Addr} {t1 t2 t3 : Tok} {k : String} {i : Int} : (a, tupO [sv "one" t1, sv k t2, .int i t3]) ∈ T → OrdIn T (.ref a) (.one k i)
  | split {a : Addr} {t1 t2 : Tok} {i : Nat} : (a, tupO [sv "split" t1, .int i t2]) ∈ T → OrdIn T (.ref a) (.split i)
  | jump {a : Addr} {t1 t2 : Tok} {i : Nat} : (a, tupO [sv "jump" t1, .int i t2]) ∈ T → OrdIn T (.ref a) (.jump i)
  | mark {a : Addr} {t1 : Tok} : (a, tupO [sv "mark" t1]) ∈ T → OrdIn T (.ref a) .mark
  | gain {a : Addr} {t1 : Tok} : (a, tupO [sv "gain" t1]) ∈ T → OrdIn T (.ref a) .gain
  | name {a : Addr} {t1 : Tok} {r : Value} : (a, tupO [sv "name" t1, r]) ∈ T → OrdIn T (.ref a) (.name r)
  | set {a : Addr} {t1 : Tok} {r : Value} : (a, tupO [sv "set" t1, r]) ∈ T → OrdIn T (.ref a) (.set r)
  | done {a : Addr} {t1 : Tok} : (a, tupO [sv "done" t1]) ∈ T → OrdIn T (.ref a) .done
inductive OrdsIn (T : List (Addr × Obj)) : List Value → List Ord → Prop
  | nil : OrdsIn T [] []
  | cons {v : Value} {o : Ord} {vs : List Value} {os : List Ord} : OrdIn T v o → OrdsIn T vs os → OrdsIn T (v :: vs) (o :: os)
theorem OrdIn.mono {T T' : List (Addr × Obj)} (hs : ∀ p ∈ T, p ∈ T') {v : Value} {o : Ord} (h : OrdIn T v o) : OrdIn T' v o := by
  cases h with
  | one h => exact .one (hs _ h)
  | split h => exact .split (hs _ h)
  | jump h => exact .jump (hs _ h)
  | mark h => exact .mark (hs _ h)
  | gain h => exact .gain (hs _ h)
  | name h => exact .name (hs _ h)
  | set h => exact .set (hs _ h)
  | done h => exact .done (hs _ h)
theorem OrdsIn.mono {T T' : List (Addr × Obj)} (hs : ∀ p ∈ T, p ∈ T') {vs : List Value} {os : List Ord} (h : OrdsIn T vs os) : OrdsIn T' vs os := by
  induction h with
  | nil => exact .nil
  | cons h _ ih => exact .cons (h.mono hs) ih
theorem OrdsIn.append {T : List (Addr × Obj)} {vs ws : List Value} {os ps : List Ord} (h : OrdsIn T vs os) (k : OrdsIn T ws ps) : OrdsIn T (vs ++ ws) (os ++ ps) := by
  induction h with
  | nil => exact k
  | cons h _ ih => exact .cons h ih
theorem OrdsIn.length {T : List (Addr × Obj)} {vs : List Value} {os : List Ord} (h : OrdsIn T vs os) : vs.length = os.length := by
  induction h with
  | nil => rfl
  | cons _ _ ih => simp [ih]
theorem OrdsIn.one {T : List (Addr × Obj)} {v : Value} {o : Ord} (h : OrdIn T v o) : OrdsIn T [v] [o] := .cons h .nil
theorem OrdsIn.get {T : List (Addr × Obj)} {vs : List Value} {os : List Ord} (h : OrdsIn T vs os) : ∀ (i : Nat) (o : Ord), os[i]? = some o → ∃ v, vs[i]? = some v ∧ OrdIn T v o := by
  induction h with
  | nil => intro i o e; cases e
  | cons h _ ih =>
    intro i o e
    cases i with
    | zero => cases e; exact ⟨_, rfl, h⟩
    | succ i => exact ih i o e
/-- a ledger where an address bears one object -/
def OneEach (T : List (Addr × Obj)) : Prop := ∀ a o o', (a, o) ∈ T → (a, o') ∈ T → o = o'
theorem tup_off {T : List (Addr × Obj)} {b a : Addr} {l : List Value} {its : Array Value} {n : Nat} (f : OneEach T) (hb : (b, listOf its n) ∈ T) (h : (a, tupO l) ∈ T) : (a, tupO l) ∈ off T b := by
  refine mem_off.mpr ⟨h, fun e => ?_⟩
  dsimp only at e
  subst e
  have := congrArg Obj.cls (f _ _ _ hb h)
  simp at this
theorem OrdIn.off {T : List (Addr × Obj)} {b : Addr} {its : Array Value} {n : Nat} (f : OneEach T) (hb : (b, listOf its n) ∈ T) {v : Value} {o : Ord} (h : OrdIn T v o) : OrdIn (off T b) v o := by
  cases h with
  | one h => exact .one (tup_off f hb h)
  | split h => exact .split (tup_off f hb h)
  | jump h => exact .jump (tup_off f hb h)
  | mark h => exact .mark (tup_off f hb h)
  | gain h => exact .gain (tup_off f hb h)
  | name h => exact .name (tup_off f hb h)
  | set h => exact .set (tup_off f hb h)
  | done h => exact .done (tup_off f hb h)
theorem OrdsIn.off {T : List (Addr × Obj)} {b : Addr} {its : Array Value} {n : Nat} (f : OneEach T) (hb : (b, listOf its n) ∈ T) {vs : List Value} {os : List Ord} (h : OrdsIn T vs os) : OrdsIn (off T b) vs os := by
  induction h with
  | nil => exact .nil
  | cons h _ ih => exact .cons (h.off f hb) ih
/-- the loop of put stands at tasks S, orders O, the rest of the ledger T -/
def Good (W : Shared → Prop) (s : Shared) (h₀ : Heap) (L x dx wl ol : Addr) (hs : Int) (tk0 : Tok) (S O : List Value) (T : List (Addr × Obj)) : Prop :=
  ∀ (h : Heap) (tk : Nat) (m : Str → Option Value) (n k : Nat), Fr h₀ L h m → m (Str.ofString "self") = some (.ref x) → m (Str.ofString "waiting") = some (.ref wl) →
    News h₀ L h ((wl, listOf S.toArray n) :: (ol, listOf O.toArray k) :: (x, instObj 94 dx) :: (dx, dictOf [⟨hs, sv "orders" tk0, .ref ol⟩] 1) :: T) → OwnOff T [wl, ol] → W { s with heap := h, toks := tk }
theorem news_one {h₀ h : Heap} {L : Addr} {T : List (Addr × Obj)} (N : News h₀ L h T) : OneEach T := fun a o o' h1 h2 => by
  have e1 := (N _ h1).1
  have e2 := (N _ h2).1
  rw [e1] at e2
  exact Option.some.inj e2
/-- the words of one sign that the families use -/
def OneWord (ks : Str) : Prop := (ks == Str.ofString "cat") = false ∧ (ks == Str.ofString "alt") = false ∧ (ks == Str.ofString "arbno") = false ∧ (ks == Str.ofString "later") = false ∧ (ks == Str.ofString "now") = false ∧
  [Str.ofString "chars", Str.ofString "len", Str.ofString "pos", Str.ofString "rpos", Str.ofString "tab", Str.ofString "rtab", Str.ofString "any", Str.ofString "notany", Str.ofString "span", Str.ofString "break", Str.ofString "rem"].any (· == ks) = true
theorem oneLen : OneWord (Str.ofString "len") := by unfold OneWord; decide
theorem onePos : OneWord (Str.ofString "pos") := by unfold OneWord; decide
def TurnOne (G : List Value → List Value → List (Addr × Obj) → Prop) : Prop :=
  ∀ (S O : List Value) (T : List (Addr × Obj)) (t v : Addr) (ks : Str) (i : Int) (t1 t2 t3 : Tok), OneWord ks → (t, tupO [sv "put" t1, .ref v]) ∈ T → (v, tupO [.str ks t2, .int i t3]) ∈ T → S.length ≤ 20000 → O.length ≤ 20000 →
    (∀ (T' : List (Addr × Obj)) (r : Addr) (u1 : Nat) (u2 : Nat) (u3 : Nat), (∀ p ∈ T, p ∈ T') → (r, tupO [sv "one" u1, .str ks u2, .int i u3]) ∈ T' → G S (O ++ [Value.ref r]) T') → G (S ++ [Value.ref t]) O T
def TurnEmit (G : List Value → List Value → List (Addr × Obj) → Prop) : Prop :=
  ∀ (S O : List Value) (T : List (Addr × Obj)) (t o : Addr) (t1 : Tok), (t, tupO [sv "emit" t1, .ref o]) ∈ T → S.length ≤ 20000 → O.length ≤ 20000 →
    G S (O ++ [Value.ref o]) T → G (S ++ [Value.ref t]) O T
def TurnMeet (G : List Value → List Value → List (Addr × Obj) → Prop) : Prop :=
  ∀ (S O : List Value) (T : List (Addr × Obj)) (t e ll : Addr) (v0 : Value) (i : Int) (n1 n2 : Nat) (t1 t2 : Tok), (t, tupO [sv "meet" t1, .ref e]) ∈ T → (e, listOf [v0, .ref ll].toArray n1) ∈ T → (ll, listOf [Value.int i t2].toArray n2) ∈ T → 0 ≤ i → i < O.length → S.length ≤ 20000 → O.length ≤ 20000 →
    (∀ (T' : List (Addr × Obj)) (j : Addr) (u1 : Nat) (u2 : Nat) (i1 : Int), (∀ p ∈ T, p ∈ T') → (j, tupO [sv "jump" u1, .int i1 u2]) ∈ T' → i1 = O.length → G S (O.set i.toNat (.ref j)) T') → G (S ++ [Value.ref t]) O T
def TurnArbno (G : List Value → List Value → List (Addr × Obj) → Prop) : Prop :=
  ∀ (S O : List Value) (T : List (Addr × Obj)) (t v : Addr) (v1 : Value) (t1 t2 : Tok), (t, tupO [sv "put" t1, .ref v]) ∈ T → (v, tupO [sv "arbno" t2, v1]) ∈ T → S.length ≤ 20000 → O.length ≤ 20000 →
    (∀ (T' : List (Addr × Obj)) (sp : Addr) (mk : Addr) (p1 : Addr) (p2 : Addr) (p3 : Addr) (p4 : Addr) (g : Addr) (j : Addr) (e : Addr) (ll : Addr) (n1 : Nat) (n2 : Nat) (u1 : Nat) (u2 : Nat) (u3 : Nat) (u4 : Nat) (u5 : Nat) (u6 : Nat) (u7 : Nat) (u8 : Nat) (u9 : Nat) (v1' : Nat) (v2' : Nat) (v3' : Nat) (i1 i2 i3 i4 : Int), (∀ p ∈ T, p ∈ T') → (sp, tupO [sv "split" u1, .int i1 u2]) ∈ T' → (mk, tupO [sv "mark" u3]) ∈ T' →
      (p1, tupO [sv "put" u4, v1]) ∈ T' → (g, tupO [sv "gain" u6]) ∈ T' → (p2, tupO [sv "emit" u5, .ref g]) ∈ T' → (j, tupO [sv "jump" u8, .int i2 u9]) ∈ T' → (p3, tupO [sv "emit" u7, .ref j]) ∈ T' →
      (p4, tupO [sv "meet" v1', .ref e]) ∈ T' → (e, listOf [Value.int i3 v2', .ref ll].toArray n1) ∈ T' → (ll, listOf [Value.int i4 v3'].toArray n2) ∈ T' → i1 = O.length + 2 → i2 = O.length → i3 = O.length → i4 = O.length + 1 →
      G (S ++ [Value.ref p4, .ref p3, .ref p2, .ref p1]) (O ++ [Value.ref sp, .none, .ref mk]) T') → G (S ++ [Value.ref t]) O T
def TurnLater (G : List Value → List Value → List (Addr × Obj) → Prop) : Prop :=
  ∀ (S O : List Value) (T : List (Addr × Obj)) (t v : Addr) (v1 v2 : Value) (t1 t2 : Tok), (t, tupO [sv "put" t1, .ref v]) ∈ T → (v, tupO [sv "later" t2, v1, v2]) ∈ T → S.length ≤ 20000 → O.length ≤ 20000 →
    (∀ (T' : List (Addr × Obj)) (mk : Addr) (p1 : Addr) (p2 : Addr) (g : Addr) (u1 : Nat) (u2 : Nat) (u3 : Nat) (u4 : Nat), (∀ p ∈ T, p ∈ T') → (mk, tupO [sv "mark" u1]) ∈ T' → (p1, tupO [sv "put" u2, v1]) ∈ T' → (p2, tupO [sv "emit" u3, .ref g]) ∈ T' → (g, tupO [sv "name" u4, v2]) ∈ T' →
      G (S ++ [Value.ref p2, .ref p1]) (O ++ [Value.ref mk]) T') → G (S ++ [Value.ref t]) O T
def TurnNow (G : List Value → List Value → List (Addr × Obj) → Prop) : Prop :=
  ∀ (S O : List Value) (T : List (Addr × Obj)) (t v : Addr) (v1 v2 : Value) (t1 t2 : Tok), (t, tupO [sv "put" t1, .ref v]) ∈ T → (v, tupO [sv "now" t2, v1, v2]) ∈ T → S.length ≤ 20000 → O.length ≤ 20000 →
    (∀ (T' : List (Addr × Obj)) (mk : Addr) (p1 : Addr) (p2 : Addr) (g : Addr) (u1 : Nat) (u2 : Nat) (u3 : Nat) (u4 : Nat), (∀ p ∈ T, p ∈ T') → (mk, tupO [sv "mark" u1]) ∈ T' → (p1, tupO [sv "put" u2, v1]) ∈ T' → (p2, tupO [sv "emit" u3, .ref g]) ∈ T' → (g, tupO [sv "set" u4, v2]) ∈ T' →
      G (S ++ [Value.ref p2, .ref p1]) (O ++ [Value.ref mk]) T') → G (S ++ [Value.ref t]) O T
def TurnAlt (G : List Value → List Value → List (Addr × Obj) → Prop) : Prop :=
  ∀ (S O : List Value) (T : List (Addr × Obj)) (t v c q : Addr) (v1 v2 : Value) (i : Int) (t1 t2 t3 t4 t5 : Tok), (t, tupO [sv "put" t1, .ref v]) ∈ T → (v, tupO [sv "alt" t2, .ref c, .ref q]) ∈ T → (c, tupO [sv "cat" t3, v1, v2]) ∈ T → (q, tupO [sv "pos" t4, .int i t5]) ∈ T → S.length ≤ 20000 → O.length ≤ 20000 →
    (∀ (T' : List (Addr × Obj)) (e : Addr) (ll : Addr) (p1 : Addr) (p2 : Addr) (p3 : Addr) (p4 : Addr) (p5 : Addr) (n1 : Nat) (n2 : Nat) (u1 : Nat) (u2 : Nat) (u3 : Nat) (u4 : Nat) (u5 : Nat) (u6 : Nat), (∀ p ∈ T, p ∈ T') → (p1, tupO [sv "open" u1, .ref e]) ∈ T' → (p2, tupO [sv "put" u2, .ref c]) ∈ T' → (p3, tupO [sv "shut" u3, .ref e]) ∈ T' → (p4, tupO [sv "put" u4, .ref q]) ∈ T' → (p5, tupO [sv "meet" u5, .ref e]) ∈ T' →
      e ≠ ll → OwnOff T' [e, ll] →
      G (S ++ [Value.ref p5, .ref p4, .ref p3, .ref p2, .ref p1]) O ((e, listOf [Value.int (-1) u6, Value.ref ll].toArray n1) :: (ll, listOf ([] : List Value).toArray n2) :: T')) → G (S ++ [Value.ref t]) O T
def TurnOpen (G : List Value → List Value → List (Addr × Obj) → Prop) : Prop :=
  ∀ (S O : List Value) (T : List (Addr × Obj)) (t e : Addr) (v0 v1 : Value) (n1 : Nat) (t1 : Tok), (t, tupO [sv "open" t1, .ref e]) ∈ T → OwnOff T [e] → S.length ≤ 20000 → O.length ≤ 20000 →
    (∀ (n1' : Nat) (u1 : Nat) (i1 : Int) (T' : List (Addr × Obj)), (∀ p ∈ T, p ∈ T') → OwnOff T' [e] → i1 = O.length → G S (O ++ [Value.none]) ((e, listOf [Value.int i1 u1, v1].toArray n1') :: T')) → G (S ++ [Value.ref t]) O ((e, listOf [v0, v1].toArray n1) :: T)
def TurnShut (G : List Value → List Value → List (Addr × Obj) → Prop) : Prop :=
  ∀ (S O : List Value) (T : List (Addr × Obj)) (t e ll : Addr) (i : Int) (n1 n2 : Nat) (t1 t2 : Tok), (t, tupO [sv "shut" t1, .ref e]) ∈ T → (e, listOf [Value.int i t2, .ref ll].toArray n1) ∈ T → OwnOff T [ll] → 0 ≤ i → i < O.length → S.length ≤ 20000 → O.length ≤ 20000 →
    (∀ (T' : List (Addr × Obj)) (sp : Addr) (n2' : Nat) (u1 : Nat) (u2 : Nat) (u3 : Nat) (i1 i2 : Int), (∀ p ∈ T, p ∈ T') → (sp, tupO [sv "split" u1, .int i1 u2]) ∈ T' → i1 = O.length + 1 → i2 = O.length →
      G S ((O ++ [Value.none]).set i.toNat (.ref sp)) ((ll, listOf [Value.int i2 u3].toArray n2') :: T')) → G (S ++ [Value.ref t]) O ((ll, listOf ([] : List Value).toArray n2) :: T)
def TurnCat (G : List Value → List Value → List (Addr × Obj) → Prop) : Prop :=
  ∀ (S O : List Value) (T : List (Addr × Obj)) (t v c q : Addr) (ks : Str) (rest : List Value) (i : Int) (t1 t2 t3 t4 t5 : Tok), (ks == Str.ofString "cat") = false → (ks == Str.ofString "chars") = false → (t, tupO [sv "put" t1, .ref v]) ∈ T → (v, tupO [sv "cat" t2, .ref c, .ref q]) ∈ T → (c, tupO (.str ks t3 :: rest)) ∈ T → (q, tupO [sv "pos" t4, .int i t5]) ∈ T → S.length ≤ 20000 → O.length ≤ 20000 →
    (∀ (T' : List (Addr × Obj)) (p1 : Addr) (p2 : Addr) (u1 : Nat) (u2 : Nat), (∀ p ∈ T, p ∈ T') → (p1, tupO [sv "put" u1, .ref c]) ∈ T' → (p2, tupO [sv "put" u2, .ref q]) ∈ T' → G (S ++ [Value.ref p2, .ref p1]) O T') → G (S ++ [Value.ref t]) O T
section
variable {W : Shared → Prop} {s : Shared} {h₀ : Heap} {L x dx wl ol : Addr} {hs : Int} {tk0 : Tok}
theorem good_of {S O : List Value} {T T' : List (Addr × Obj)} (hT : ∀ p ∈ T', p ∈ T) (g : Good W s h₀ L x dx wl ol hs tk0 S O T') : Good W s h₀ L x dx wl ol hs tk0 S O T := by
  intro h tk m n k F m1 m2 N off
  refine g h tk m n k F m1 m2 (fun p hp => N p ?_) (fun p hp => off p (hT p hp))
  simp only [List.mem_cons] at hp ⊢
  rcases hp with h | h | h | h | h
  · exact .inl h
  · exact .inr (.inl h)
  · exact .inr (.inr (.inl h))
  · exact .inr (.inr (.inr (.inl h)))
  · exact .inr (.inr (.inr (.inr (hT p h))))
theorem good_one {S O : List Value} {T : List (Addr × Obj)} (g : OneEach T → Good W s h₀ L x dx wl ol hs tk0 S O T) : Good W s h₀ L x dx wl ol hs tk0 S O T := by
  intro h tk m n k F m1 m2 N off
  exact g (news_one fun p hp => N p (.tail _ (.tail _ (.tail _ (.tail _ hp))))) h tk m n k F m1 m2 N off

theorem good_close {S O S₁ O₁ : List Value} {l : List (Addr × Obj)} {h : Heap} {tk : Nat} {m : Str → Option Value} {n k : Nat} (g : Good W s h₀ L x dx wl ol hs tk0 S O (off (off l wl) ol)) (F : Fr h₀ L h m) (m1 : m (Str.ofString "self") = some (.ref x)) (m2 : m (Str.ofString "waiting") = some (.ref wl))
    (N : News h₀ L h l) (h1 : (wl, listOf S₁.toArray n) ∈ l) (h2 : (ol, listOf O₁.toArray k) ∈ l) (h3 : (x, instObj 94 dx) ∈ l) (h4 : (dx, dictOf [⟨hs, sv "orders" tk0, .ref ol⟩] 1) ∈ l) (eS : S₁ = S) (eO : O₁ = O) : W { s with heap := h, toks := tk } := by
  subst eS eO
  refine g h tk m n k F m1 m2 (fun p hp => N p ?_) ?_
  · simp only [List.mem_cons] at hp
    rcases hp with rfl | rfl | rfl | rfl | hp
    · exact h1
    · exact h2
    · exact h3
    · exact h4
    · exact (mem_off.mp (mem_off.mp hp).1).1
  · intro p hp b hb
    obtain ⟨hp, n1⟩ := mem_off.mp hp
    obtain ⟨hp, n2⟩ := mem_off.mp hp
    simp only [List.mem_cons, List.not_mem_nil, or_false] at hb
    rcases hb with rfl | rfl
    · exact n2
    · exact n1
theorem mem_off2 {l : List (Addr × Obj)} {p : Addr × Obj} (h : p ∈ l) (h1 : wl ≠ p.1) (h2 : ol ≠ p.1) : p ∈ off (off l wl) ol := mem_off.mpr ⟨mem_off.mpr ⟨h, Ne.symm h1⟩, Ne.symm h2⟩
theorem sub_off2 {T l : List (Addr × Obj)} (hT : OwnOff T [wl, ol]) (h : ∀ p ∈ T, p ∈ l) : ∀ p ∈ T, p ∈ off (off l wl) ol := fun p hp => mem_off2 (h p hp) (Ne.symm (hT p hp _ (.head _))) (Ne.symm (hT p hp _ (.tail _ (.head _))))
theorem sub_one {X : List (Addr × Obj)} {p : Addr × Obj} (h : p ∈ X) : ∀ q ∈ p :: off X p.1, q ∈ X := fun q hq => by
  rcases List.mem_cons.mp hq with rfl | hq
  · exact h
  · exact (mem_off.mp hq).1
theorem sub_two {X : List (Addr × Obj)} {p p' : Addr × Obj} (h : p ∈ X) (h' : p' ∈ X) : ∀ q ∈ p :: p' :: off (off X p.1) p'.1, q ∈ X := fun q hq => by
  rcases List.mem_cons.mp hq with rfl | hq
  · exact h
  · rcases List.mem_cons.mp hq with rfl | hq
    · exact h'
    · exact (mem_off.mp (mem_off.mp hq).1).1
theorem own_off {X : List (Addr × Obj)} {b : Addr} : OwnOff (off X b) [b] := fun p hp c hc => by
  obtain rfl := List.mem_singleton.mp hc
  exact (mem_off.mp hp).2
theorem own_off2 {X : List (Addr × Obj)} {b c : Addr} : OwnOff (off (off X b) c) [b, c] := fun p hp d hd => by
  obtain ⟨hp, n1⟩ := mem_off.mp hp
  obtain ⟨hp, n2⟩ := mem_off.mp hp
  simp only [List.mem_cons, List.not_mem_nil, or_false] at hd
  rcases hd with rfl | rfl
  · exact n2
  · exact n1
theorem news_lits {h : Heap} {a b c d : Addr × Obj} {T : List (Addr × Obj)} (ps : List (Addr × Obj)) (N : News h₀ L h (a :: b :: c :: d :: T)) (hp : ∀ p ∈ ps, p ∈ T) : News h₀ L h (a :: b :: c :: d :: (ps ++ T)) := fun q hq => N q (by
  simp only [List.mem_cons, List.mem_append] at hq ⊢
  rcases hq with h | h | h | h | h | h
  · exact .inl h
  · exact .inr (.inl h)
  · exact .inr (.inr (.inl h))
  · exact .inr (.inr (.inr (.inl h)))
  · exact .inr (.inr (.inr (.inr (hp q h))))
  · exact .inr (.inr (.inr (.inr h))))
theorem cls_ne {h₀ h : Heap} {L : Addr} {T : List (Addr × Obj)} (N : News h₀ L h T) {a b : Addr} {o o' : Obj} (ha : (a, o) ∈ T) (hb : (b, o') ∈ T) (hc : o.cls ≠ o'.cls) : a ≠ b := fun e => by
  subst e
  exact hc (congrArg Obj.cls (news_one N _ _ _ ha hb))
theorem set_at {A B : List Value} {y z : Value} {k : Nat} (h : k = A.length) : (A ++ y :: B).set k z = A ++ z :: B := by
  subst h
  induction A with
  | nil => rfl
  | cons a A ih => exact congrArg (List.cons a) ih
theorem put_all
  (tOne : TurnOne (Good W s h₀ L x dx wl ol hs tk0))
  (tEmit : TurnEmit (Good W s h₀ L x dx wl ol hs tk0))
  (tMeet : TurnMeet (Good W s h₀ L x dx wl ol hs tk0))
  (tArbno : TurnArbno (Good W s h₀ L x dx wl ol hs tk0))
  (tLater : TurnLater (Good W s h₀ L x dx wl ol hs tk0))
  (tNow : TurnNow (Good W s h₀ L x dx wl ol hs tk0))
  (tAlt : TurnAlt (Good W s h₀ L x dx wl ol hs tk0))
  (tOpen : TurnOpen (Good W s h₀ L x dx wl ol hs tk0))
  (tShut : TurnShut (Good W s h₀ L x dx wl ol hs tk0))
  (tCat : TurnCat (Good W s h₀ L x dx wl ol hs tk0))
  :
  ∀ (nd : Nd) (S O : List Value) (T : List (Addr × Obj)) (t : Addr) (v : Value) (t1 : Tok), NodeIn T v nd → (t, tupO [sv "put" t1, v]) ∈ T → S.length + 5 * nd.depth ≤ 20000 → O.length + 5 * nd.depth ≤ 20000 →
    (∀ T' os, (∀ p ∈ T, p ∈ T') → OrdsIn T' os (code nd O.length) → Good W s h₀ L x dx wl ol hs tk0 S (O ++ os) T') → Good W s h₀ L x dx wl ol hs tk0 (S ++ [.ref t]) O T := by
  intro nd
  induction nd with
  | len1 =>
    intro S O T t v t1 hn ht hS hO g
    simp only [Nd.depth] at hS hO
    cases hn with
    | len1 hv =>
      refine tOne S O T t _ _ _ _ _ _ oneLen ht hv (by omega) (by omega) fun T' r u1 u2 u3 hT hr => ?_
      exact g T' [.ref r] hT (.one (.one hr))
  | arbno n ih =>
    intro S O T t v t1 hn ht hS hO g
    simp only [Nd.depth] at hS hO
    cases hn with
    | arbno hv hn =>
      refine tArbno S O T t _ _ _ _ ht hv (by omega) (by omega) ?_
      intro T1 sp mk p1 p2 p3 p4 g' j e ll n1 n2 u1 u2 u3 u4 u5 u6 u7 u8 u9 v1' v2' v3' i1 i2 i3 i4 hT hsp hmk hp1 hg hp2 hj hp3 hp4 he hll ei1 ei2 ei3 ei4
      subst ei1 ei2 ei3 ei4
      have e1 : S ++ [Value.ref p4, .ref p3, .ref p2, .ref p1] = (S ++ [Value.ref p4, .ref p3, .ref p2]) ++ [.ref p1] := by simp
      rw [e1]
      refine ih _ _ T1 p1 _ _ (hn.mono hT) hp1 (by simp only [List.length_append, List.length_cons, List.length_nil, List.length_set] <;> omega) (by simp only [List.length_append, List.length_cons, List.length_nil, List.length_set] <;> omega) fun T2 os h2 ho => ?_
      have hl := ho.length
      have hc := code_length n (O ++ [Value.ref sp, .none, .ref mk]).length
      have e2 : S ++ [Value.ref p4, .ref p3, .ref p2] = (S ++ [Value.ref p4, .ref p3]) ++ [.ref p2] := by simp
      rw [e2]
      refine tEmit _ _ T2 p2 g' _ (h2 _ hp2) (by simp only [List.length_append, List.length_cons, List.length_nil, List.length_set] <;> omega) (by simp only [List.length_append, List.length_cons, List.length_nil, List.length_set] <;> omega) ?_
      have e3 : S ++ [Value.ref p4, .ref p3] = (S ++ [Value.ref p4]) ++ [.ref p3] := by simp
      rw [e3]
      refine tEmit _ _ T2 p3 j _ (h2 _ hp3) (by simp only [List.length_append, List.length_cons, List.length_nil, List.length_set] <;> omega) (by simp only [List.length_append, List.length_cons, List.length_nil, List.length_set] <;> omega) ?_
      refine tMeet _ _ T2 p4 e ll _ _ _ _ _ _ (h2 _ hp4) (h2 _ he) (h2 _ hll) (by omega) (by simp only [List.length_append, List.length_cons, List.length_nil, List.length_set] <;> omega) (by omega) (by simp only [List.length_append, List.length_cons, List.length_nil, List.length_set] <;> omega) ?_
      intro T3 j2 w1 w2 i5 h3 hj2 ei5
      subst ei5
      have hb : (O ++ [Value.ref sp, Value.none, Value.ref mk]).length = O.length + 3 := by simp
      rw [hb] at ho hl
      have e4 : (O ++ [Value.ref sp, Value.none, Value.ref mk] ++ os ++ [Value.ref g'] ++ [Value.ref j]).set ((O.length : Int) + 1).toNat (Value.ref j2) = O ++ ([Value.ref sp, .ref j2, .ref mk] ++ os ++ [.ref g', .ref j]) := by
        have e0 : O ++ [Value.ref sp, Value.none, Value.ref mk] ++ os ++ [Value.ref g'] ++ [Value.ref j] = (O ++ [Value.ref sp]) ++ Value.none :: ([Value.ref mk] ++ os ++ [Value.ref g', Value.ref j]) := by simp only [List.append_assoc, List.cons_append, List.nil_append]
        rw [e0, set_at (by simp only [List.length_append, List.length_cons, List.length_nil] <;> omega)]
        simp only [List.append_assoc, List.cons_append, List.nil_append]
      rw [e4]
      have hle : (O ++ [Value.ref sp, Value.none, Value.ref mk] ++ os ++ [Value.ref g'] ++ [Value.ref j]).length = O.length + 3 + (code n (O.length + 3)).length + 2 := by
        simp only [List.length_append, List.length_cons, List.length_nil, List.length_set, hl] <;> omega
      rw [hle] at hj2
      refine g T3 _ (fun p hp => h3 p (h2 p (hT p hp))) ?_
      simp only [code]
      refine OrdsIn.append (OrdsIn.append ?_ (ho.mono h3)) ?_
      · exact .cons (.split (i := O.length + 2) (h3 _ (h2 _ (by simpa using hsp)))) (.cons (.jump hj2) (.one (.mark (h3 _ (h2 _ hmk)))))
      · exact .cons (.gain (h3 _ (h2 _ hg))) (.one (.jump (h3 _ (h2 _ hj))))
  | later n r ih =>
    intro S O T t v t1 hn ht hS hO g
    simp only [Nd.depth] at hS hO
    cases hn with
    | later hv hn =>
      refine tLater S O T t _ _ _ _ _ ht hv (by omega) (by omega) ?_
      intro T1 mk p1 p2 g' u1 u2 u3 u4 hT hmk hp1 hp2 hg
      have e1 : S ++ [Value.ref p2, .ref p1] = (S ++ [Value.ref p2]) ++ [.ref p1] := by simp
      rw [e1]
      refine ih _ _ T1 p1 _ _ (hn.mono hT) hp1 (by simp only [List.length_append, List.length_cons, List.length_nil, List.length_set] <;> omega) (by simp only [List.length_append, List.length_cons, List.length_nil, List.length_set] <;> omega) fun T2 os h2 ho => ?_
      have hl := ho.length
      have hc := code_length n (O ++ [Value.ref mk]).length
      refine tEmit _ _ T2 p2 g' _ (h2 _ hp2) (by omega) (by simp only [List.length_append, List.length_cons, List.length_nil, List.length_set] <;> omega) ?_
      have hb : (O ++ [Value.ref mk]).length = O.length + 1 := by simp
      rw [hb] at ho hl
      have e4 : O ++ [Value.ref mk] ++ os ++ [Value.ref g'] = O ++ ([Value.ref mk] ++ os ++ [Value.ref g']) := by simp
      rw [e4]
      refine g T2 _ (fun p hp => h2 p (hT p hp)) ?_
      simp only [code]
      exact OrdsIn.append (OrdsIn.append (.one (.mark (h2 _ hmk))) ho) (.one (.name (h2 _ hg)))
  | now n r ih =>
    intro S O T t v t1 hn ht hS hO g
    simp only [Nd.depth] at hS hO
    cases hn with
    | now hv hn =>
      refine tNow S O T t _ _ _ _ _ ht hv (by omega) (by omega) ?_
      intro T1 mk p1 p2 g' u1 u2 u3 u4 hT hmk hp1 hp2 hg
      have e1 : S ++ [Value.ref p2, .ref p1] = (S ++ [Value.ref p2]) ++ [.ref p1] := by simp
      rw [e1]
      refine ih _ _ T1 p1 _ _ (hn.mono hT) hp1 (by simp only [List.length_append, List.length_cons, List.length_nil, List.length_set] <;> omega) (by simp only [List.length_append, List.length_cons, List.length_nil, List.length_set] <;> omega) fun T2 os h2 ho => ?_
      have hl := ho.length
      have hc := code_length n (O ++ [Value.ref mk]).length
      refine tEmit _ _ T2 p2 g' _ (h2 _ hp2) (by omega) (by simp only [List.length_append, List.length_cons, List.length_nil, List.length_set] <;> omega) ?_
      have hb : (O ++ [Value.ref mk]).length = O.length + 1 := by simp
      rw [hb] at ho hl
      have e4 : O ++ [Value.ref mk] ++ os ++ [Value.ref g'] = O ++ ([Value.ref mk] ++ os ++ [Value.ref g']) := by simp
      rw [e4]
      refine g T2 _ (fun p hp => h2 p (hT p hp)) ?_
      simp only [code]
      exact OrdsIn.append (OrdsIn.append (.one (.mark (h2 _ hmk))) ho) (.one (.set (h2 _ hg)))
  | altcat n ih =>
    intro S O T t v t1 hn ht hS hO g
    simp only [Nd.depth] at hS hO
    cases hn with
    | @altcat a c q q2 w1 w2 w3 w4 w5 w6 v1 _ hv hc hq hq2 hpl hn =>
      refine tAlt S O T t _ c q _ _ _ _ _ _ _ _ ht hv hc hq (by omega) (by omega) ?_
      intro T1 e ll p1 p2 p3 p4 p5 n1 n2 u1 u2 u3 u4 u5 u6 hT hp1 hp2 hp3 hp4 hp5 hell hoff
      have e1 : S ++ [Value.ref p5, .ref p4, .ref p3, .ref p2, .ref p1] = (S ++ [Value.ref p5, .ref p4, .ref p3, .ref p2]) ++ [.ref p1] := by simp
      rw [e1]
      refine tOpen _ O _ p1 e _ _ _ _ (.tail _ hp1) ?_ (by simp only [List.length_append, List.length_cons, List.length_nil, List.length_set] <;> omega) (by omega) ?_
      · intro p hp b hb
        obtain rfl := List.mem_singleton.mp hb
        rcases List.mem_cons.mp hp with rfl | hp
        · exact Ne.symm hell
        · exact hoff p hp _ (.head _)
      intro n1' u7 i1 T1' hT1' hoff1 ei1
      subst ei1
      have e2 : S ++ [Value.ref p5, .ref p4, .ref p3, .ref p2] = (S ++ [Value.ref p5, .ref p4, .ref p3]) ++ [.ref p2] := by simp
      rw [e2]
      -- the cat
      have main : ∀ p1' p2' T2 u1 u2, (∀ p ∈ ((e, listOf [Value.int (O.length : Int) u7, .ref ll].toArray n1') :: (ll, listOf [].toArray n2) :: T1), p ∈ T2) → (p1', tupO [sv "put" u1, v1]) ∈ T2 → (p2', tupO [sv "put" u2, .ref q2]) ∈ T2 →
          Good W s h₀ L x dx wl ol hs tk0 ((S ++ [Value.ref p5, .ref p4, .ref p3]) ++ [.ref p2', .ref p1']) (O ++ [.none]) T2 := by
        intro p1' p2' T2 z1 z2 h2 hp1' hp2'
        have e3 : (S ++ [Value.ref p5, .ref p4, .ref p3]) ++ [Value.ref p2', .ref p1'] = ((S ++ [Value.ref p5, .ref p4, .ref p3]) ++ [Value.ref p2']) ++ [.ref p1'] := by simp
        rw [e3]
        have hT2 : ∀ p ∈ T1, p ∈ T2 := fun p hp => h2 p (.tail _ (.tail _ hp))
        refine ih _ _ T2 p1' _ _ (hn.mono fun p hp => hT2 p (hT p hp)) hp1' (by simp only [List.length_append, List.length_cons, List.length_nil, List.length_set] <;> omega) (by simp only [List.length_append, List.length_cons, List.length_nil, List.length_set] <;> omega) fun T3 os h3 ho => ?_
        have hl := ho.length
        have hb : (O ++ [Value.none]).length = O.length + 1 := by simp
        rw [hb] at ho hl
        have hcl := code_length n (O.length + 1)
        refine tOne _ _ T3 p2' q2 _ _ _ _ _ onePos (h3 _ hp2') (h3 _ (hT2 _ (hT _ hq2))) (by simp only [List.length_append, List.length_cons, List.length_nil, List.length_set] <;> omega) (by simp only [List.length_append, List.length_cons, List.length_nil, List.length_set] <;> omega) fun T4 r z3 z4 z5 h4 hr => ?_
        refine good_one fun one4 => ?_
        have m4 : ∀ p ∈ T1, p ∈ T4 := fun p hp => h4 p (h3 p (hT2 p hp))
        have hll4 : (ll, listOf [].toArray n2) ∈ T4 := h4 _ (h3 _ (h2 _ (.tail _ (.head _))))
        have he4 : (e, listOf [Value.int (O.length : Int) u7, .ref ll].toArray n1') ∈ T4 := h4 _ (h3 _ (h2 _ (.head _)))
        have m5 : ∀ p ∈ T1, p ∈ off T4 ll := fun p hp => mem_off.mpr ⟨m4 p hp, hoff p hp _ (.tail _ (.head _))⟩
        refine good_of (T' := (ll, listOf [].toArray n2) :: off T4 ll) ?_ ?_
        · intro p hp
          rcases List.mem_cons.mp hp with rfl | hp
          · exact hll4
          · exact (mem_off.mp hp).1
        have e5 : S ++ [Value.ref p5, .ref p4, .ref p3] = (S ++ [Value.ref p5, .ref p4]) ++ [.ref p3] := by simp
        rw [e5]
        refine tShut _ _ _ p3 e ll _ _ _ _ _ (m5 _ hp3) (mem_off.mpr ⟨he4, hell⟩) ?_ (by omega) (by simp only [List.length_append, List.length_cons, List.length_nil, List.length_set] <;> omega) (by simp only [List.length_append, List.length_cons, List.length_nil, List.length_set] <;> omega) (by simp only [List.length_append, List.length_cons, List.length_nil, List.length_set] <;> omega) ?_
        · intro p hp b hb'
          obtain rfl := List.mem_singleton.mp hb'
          exact (mem_off.mp hp).2
        intro T5 sp n2' z6 z7 z8 i3 i4 h5 hsp ei3 ei4
        subst ei3 ei4
        have hr5 : OrdIn (off T4 ll) (.ref r) (.one "pos" 2) := .one (tup_off one4 hll4 hr)
        have ho5 : OrdsIn (off T4 ll) os (code n (O.length + 1)) := (ho.mono h4).off one4 hll4
        have e6 : S ++ [Value.ref p5, .ref p4] = (S ++ [Value.ref p5]) ++ [.ref p4] := by simp
        rw [e6]
        have hq5 : (q, tupO [sv "pos" w3, .int 3 w4]) ∈ T5 := h5 _ (m5 _ (hT _ hq))
        refine tOne _ _ _ p4 q _ _ _ _ _ onePos (.tail _ (h5 _ (m5 _ hp4))) (.tail _ hq5) (by simp only [List.length_append, List.length_cons, List.length_nil, List.length_set] <;> omega) (by simp only [List.length_append, List.length_cons, List.length_nil, List.length_set] <;> omega) fun T6 r2 y1 y2 y3 h6 hr2 => ?_
        refine tMeet _ _ T6 p5 e ll _ _ _ _ _ _ (h6 _ (.tail _ (h5 _ (m5 _ hp5)))) (h6 _ (.tail _ (h5 _ (mem_off.mpr ⟨he4, hell⟩)))) (h6 _ (.head _)) (by omega) (by simp) (by omega) (by simp only [List.length_append, List.length_cons, List.length_nil, List.length_set] <;> omega) ?_
        intro T7 j y4 y5 i5 h7 hj ei5
        subst ei5
        have hO1 : (O ++ [Value.none] ++ os ++ [Value.ref r]).length = O.length + 1 + (code n (O.length + 1)).length + 1 := by simp only [List.length_append, List.length_cons, List.length_nil, List.length_set, hl] <;> omega
        have e7 : ((((O ++ [Value.none] ++ os ++ [Value.ref r]) ++ [Value.none]).set ((O.length : Int)).toNat (Value.ref sp)) ++ [Value.ref r2]).set (((O ++ [Value.none] ++ os ++ [Value.ref r]).length : Nat) : Int).toNat (Value.ref j) =
            O ++ ([Value.ref sp] ++ os ++ [Value.ref r, .ref j, .ref r2]) := by
          have e0 : O ++ [Value.none] ++ os ++ [Value.ref r] ++ [Value.none] = O ++ Value.none :: (os ++ [Value.ref r] ++ [Value.none]) := by simp only [List.append_assoc, List.cons_append, List.nil_append]
          have e00 : O ++ Value.ref sp :: (os ++ [Value.ref r] ++ [Value.none]) ++ [Value.ref r2] = (O ++ [Value.ref sp] ++ os ++ [Value.ref r]) ++ Value.none :: [Value.ref r2] := by simp only [List.append_assoc, List.cons_append, List.nil_append]
          rw [Int.toNat_natCast, Int.toNat_natCast, e0, set_at rfl, e00, set_at (by simp only [List.length_append, List.length_cons, List.length_nil])]
          simp only [List.append_assoc, List.cons_append, List.nil_append]
        rw [e7]
        have hle : ((((O ++ [Value.none] ++ os ++ [Value.ref r]) ++ [Value.none]).set ((O.length : Int)).toNat (Value.ref sp)) ++ [Value.ref r2]).length = O.length + 1 + (code n (O.length + 1)).length + 3 := by
          simp only [List.length_append, List.length_cons, List.length_nil, List.length_set, hl] <;> omega
        rw [hle] at hj
        have h67 : ∀ p ∈ T5, p ∈ T7 := fun p hp => h7 p (h6 p (.tail _ hp))
        refine g T7 _ (fun p hp => h67 p (h5 p (m5 p (hT p hp)))) ?_
        simp only [code]
        rw [hO1] at hsp
        refine OrdsIn.append (OrdsIn.append (.one (.split (i := O.length + 1 + (code n (O.length + 1)).length + 2) (h67 _ (by rw [show ((O.length + 1 + (code n (O.length + 1)).length + 2 : Nat) : Int) = (((O.length + 1 + (code n (O.length + 1)).length + 1 : Nat) : Int) + 1) from by omega]; exact hsp)))) (ho5.mono fun p hp => h67 p (h5 p hp))) ?_
        exact .cons (hr5.mono fun p hp => h67 p (h5 p hp)) (.cons (.jump hj) (.one (.one (h7 _ hr2))))
      cases hn with
      | @len1 cc f1 f2 hcc =>
        refine tCat _ _ _ p2 c cc q2 _ _ _ _ _ _ _ _ (by decide) (by decide) (.tail _ (hT1' _ (.tail _ hp2))) (.tail _ (hT1' _ (.tail _ (hT _ hc)))) (.tail _ (hT1' _ (.tail _ (hT _ hcc)))) (.tail _ (hT1' _ (.tail _ (hT _ hq2)))) (by simp only [List.length_append, List.length_cons, List.length_nil, List.length_set] <;> omega) (by simp only [List.length_append, List.length_cons, List.length_nil, List.length_set] <;> omega) ?_
        intro T2 a1 a2 z1 z2 h2 ha1 ha2
        refine main a1 a2 T2 z1 z2 (fun p hp => ?_) ha1 ha2
        rcases List.mem_cons.mp hp with rfl | hp
        · exact h2 _ (.head _)
        · exact h2 _ (.tail _ (hT1' _ hp))
      | @altcat cc c' q' q2' f1 f2 f3 f4 f5 f6 v1' _ hcc _ _ _ _ _ =>
        refine tCat _ _ _ p2 c cc q2 _ _ _ _ _ _ _ _ (by decide) (by decide) (.tail _ (hT1' _ (.tail _ hp2))) (.tail _ (hT1' _ (.tail _ (hT _ hc)))) (.tail _ (hT1' _ (.tail _ (hT _ hcc)))) (.tail _ (hT1' _ (.tail _ (hT _ hq2)))) (by simp only [List.length_append, List.length_cons, List.length_nil, List.length_set] <;> omega) (by simp only [List.length_append, List.length_cons, List.length_nil, List.length_set] <;> omega) ?_
        intro T2 a1 a2 z1 z2 h2 ha1 ha2
        refine main a1 a2 T2 z1 z2 (fun p hp => ?_) ha1 ha2
        rcases List.mem_cons.mp hp with rfl | hp
        · exact h2 _ (.head _)
        · exact h2 _ (.tail _ (hT1' _ hp))
      | arbno _ _ => cases hpl
      | later _ _ => cases hpl
      | now _ _ => cases hpl
end
theorem fr_two {h₀ h : Heap} {L : Addr} {m : Str → Option Value} {a b : Str} {v w : Value} (F : Fr h₀ L h m) (h1 : m a = some v) (h2 : m b = some w) : ∃ u : Str → Option Value, Fr h₀ L h (fun z => if z = a then some v else if z = b then some w else u z) := by
  refine ⟨m, ?_⟩
  have e : (fun z => if z = a then some v else if z = b then some w else m z) = m := by
    funext z
    by_cases h3 : z = a
    · subst h3; simp [h1]
    · by_cases h4 : z = b
      · subst h4; simp [h2, h3]
      · simp [h3, h4]
  rw [e]; exact F
abbrev Sep (wl ol x dx : Addr) : Prop := wl ≠ ol ∧ wl ≠ x ∧ wl ≠ dx ∧ ol ≠ x ∧ ol ≠ dx
/-- an item of a comprehension that is an object made for it -/
def ObjAt (h₁ : Heap) (C D : Addr) (wr : List Addr) (G : Value → Obj → Prop) (h : Heap) (v y : Value) : Prop :=
  ∃ T o, y = .ref T ∧ h₁.get? T = none ∧ T ≠ C ∧ T ∉ wr ∧ T ≠ D ∧ h.get? T = some o ∧ G v o
theorem ObjAt.keep {h₁ : Heap} {C D : Addr} {wr : List Addr} {G : Value → Obj → Prop} {h h' : Heap} {v y : Value} (x : ObjAt h₁ C D wr G h v y)
    (hk : ∀ b o, b ≠ C → b ∉ wr → b ≠ D → h.get? b = some o → h'.get? b = some o) : ObjAt h₁ C D wr G h' v y := by
  obtain ⟨T, o, rfl, h1, hC, hw, hD, hl, hG⟩ := x
  exact ⟨T, o, rfl, h1, hC, hw, hD, hk T o hC hw hD hl, hG⟩
section
variable {prog : Program} {w : World} {A : Around} {s : Shared}
theorem comp_loop_obj {R : Result → Shared → Prop} {elt iter : PySem.Expr} {x : Str} {px : Pos} {scope : Scope} {pos : Pos} {I D : Addr} {fp wr : List Addr} {n : Nat} {P : Nat → Value → Prop} {St : Nat → Heap → Prop}
    {cenv : Env} {m : Str → Option Value} (W : Walks prog w A I fp wr n P St) (G : Value → Obj → Prop)
    (hlive : ∀ i h, St i h → ∀ b ∈ wr, ∃ o, h.get? b = some o)
    (hx : cenv.kindOf x = some .local) (hp : (cenv.scope.kind == .class || (cenv.scope.kind == .module && cenv.locals != cenv.globals)) = false)
    (hDC : D ≠ cenv.locals) (hDf : D ∉ fp) (hCf : cenv.locals ∉ fp)
    (hst : St 0 s.heap) (hacc : s.heap.PlainList D #[]) (hn : s.heap.Ns cenv.locals m)
    (helt : ∀ i v s₂ m₂, P i v → s₂.heap.Ns cenv.locals m₂ → m₂ x = some v → (∀ b o, b ≠ cenv.locals → b ∉ wr → b ≠ D → s.heap.get? b = some o → s₂.heap.get? b = some o) →
      wpAny (model prog w) A (eval elt cenv) (fun y s₃ => (∃ T o, y = .ref T ∧ s₂.heap.get? T = none ∧ s₃.heap.get? T = some o ∧ G v o) ∧ Keeps s₂ s₃) (notedBy (model prog w) A cenv fun e s' => R (.error e) s') s₂)
    (hR : ∀ h' tk m' ys (vs : List Value), h'.Ns cenv.locals m' → h'.PlainList D ys → vs.length = n → (∀ j v, vs[j]? = some v → P j v) → Paired (ObjAt s.heap cenv.locals D wr G h') vs ys.toList →
      (∀ b o, b ≠ cenv.locals → b ∉ wr → b ≠ D → s.heap.get? b = some o → h'.get? b = some o) → R (.ok .next) { s with heap := h', toks := tk })
    (hsz : n ≤ sizeLine) :
    codeAny (model prog w) A (.compLoop (.ListComp elt [⟨.Name x px, iter, [], 0⟩] scope pos) 0 (.ref I) (.ref D) cenv) R s := by
  refine codeAny_compLoop_tests
    (fun k s' => ∃ h' tk m' ys, ∃ vs : List Value, s' = { s with heap := h', toks := tk } ∧ St vs.length h' ∧ h'.PlainList D ys ∧ h'.Ns cenv.locals m' ∧ (∀ j v, vs[j]? = some v → P j v) ∧
      Paired (ObjAt s.heap cenv.locals D wr G h') vs ys.toList ∧ vs.length ≤ n ∧ k = n + 1 - vs.length ∧
      (∀ b o, b ≠ cenv.locals → b ∉ wr → b ≠ D → s.heap.get? b = some o → h'.get? b = some o)) ?_ (n + 1)
    ⟨s.heap, s.toks, m, #[], [], rfl, hst, hacc, hn, by simp, by simpa using Paired.nil, Nat.zero_le _, rfl, fun _ _ _ _ _ e => e⟩
  rintro k s' ⟨H, tk, m', ys, vs, rfl, hst', hacc', hn', hP, hF, hi, rfl, hk⟩
  have hCw : cenv.locals ∉ wr := fun h => hCf (W.sub _ h)
  have hDw : D ∉ wr := fun h => hDf (W.sub _ h)
  by_cases hlt : vs.length < n
  · refine W.item vs.length _ _ _ hlt hst' fun v h₁ tk₁ hPv hst₁ hk₁ => ?_
    refine wpAny_assign_Name (wpAny_storeName_local hx (hn'.at' fun o e => hk₁ _ o hCw e) (fun h₂ hn₂ hs₂ => ?_) hp)
    have up₂ : ∀ b o, b ≠ cenv.locals → b ∉ wr → H.get? b = some o → h₂.get? b = some o := fun b o hbC hbf e => hs₂.extBut b o hbC (hk₁ b o hbf e)
    have hst₂ : St (vs.length + 1) h₂ := W.frame _ _ _ hst₁ fun b hb o e => hs₂.extBut b o (fun h => hCf (h ▸ hb)) e
    have hacc₂ : h₂.PlainList D ys := hacc'.at fun o e => up₂ D o hDC hDw e
    have hP' : ∀ j u, (vs ++ [v])[j]? = some u → P j u := fun j u hj => by
      rcases Nat.lt_trichotomy j vs.length with h | h | h
      · exact hP j u (by rwa [List.getElem?_append_left h] at hj)
      · subst h; simp at hj; subst hj; exact hPv
      · have hnone : (vs ++ [v])[j]? = none := List.getElem?_eq_none (by rw [List.length_append, List.length_singleton]; omega)
        rw [hnone] at hj; cases hj
    have hF₂ : Paired (ObjAt s.heap cenv.locals D wr G h₂) vs ys.toList := hF.mono fun _ _ hy => hy.keep fun b o hbC hbf _ e => up₂ b o hbC hbf e
    rw [List.forIn_nil]
    refine wpAny_pure ?_
    simp only [if_true]
    refine wpAny_mono (helt vs.length v _ _ hPv hn₂ (by simp) (fun b o hbC hbf hbD e => up₂ b o hbC hbf (hk b o hbC hbf hbD e))) (fun y s₄ h₄ => ?_) fun _ _ e => e
    obtain ⟨⟨T, o, rfl, hTnew, hT, hG⟩, h₄, tk₄, rfl, hk₄⟩ := h₄
    have hTC : T ≠ cenv.locals := by obtain ⟨_, _, _, ho, _⟩ := hn₂; exact ne_of_none_some hTnew ho
    have hTD : T ≠ D := by obtain ⟨_, ho⟩ := hacc₂; exact ne_of_none_some hTnew ho
    have hTw : T ∉ wr := fun hm => by obtain ⟨o, ho⟩ := hlive _ _ hst₂ T hm; exact absurd rfl (ne_of_none_some hTnew ho)
    have hTs : s.heap.get? T = none := by
      cases e : s.heap.get? T with
      | none => rfl
      | some o => exact absurd rfl (ne_of_none_some hTnew (up₂ T o hTC hTw (hk T o hTC hTw hTD e)))
    have hys : ys.size ≤ sizeLine := by
      have e1 := hF.length
      have e4 : ys.toList.length = ys.size := by simp
      omega
    refine wpAny_list_append_plain (hsz := hys) (hacc₂.at fun o e => hk₄ _ o e) fun h₅ hl₅ hs₅ => ?_
    refine ⟨n + 1 - (vs.length + 1), by omega, h₅, tk₄, _, ys.push (.ref T), vs ++ [v], rfl, ?_, hl₅, (hn₂.keeps hk₄).sameBut hs₅ (Ne.symm hDC), hP', ?_, (by rw [List.length_append, List.length_singleton]; exact hlt), (by rw [List.length_append, List.length_singleton]),
      fun b o hbC hbf hbD e => hs₅.extBut b o hbD (hk₄ b o (up₂ b o hbC hbf (hk b o hbC hbf hbD e)))⟩
    · have := W.frame _ _ h₅ hst₂ fun b hb o e => hs₅.extBut b o (fun h => hDf (h ▸ hb)) (hk₄ b o e)
      simpa using this
    · have hF₅ := hF₂.mono (F' := ObjAt s.heap cenv.locals D wr G h₅) fun _ _ hy => hy.keep fun b o _ _ hbD e => hs₅.extBut b o hbD (hk₄ b o e)
      have hy₅ : ObjAt s.heap cenv.locals D wr G h₅ v (.ref T) := ⟨T, o, rfl, hTs, hTC, hTw, hTD, hs₅.extBut T o hTD hT, hG⟩
      simpa using Paired.snoc hF₅ hy₅
  · have hin : vs.length = n := by omega
    refine W.done _ _ _ (hin ▸ hst') fun h₁ tk₁ hk₁ => ?_
    exact hR h₁ tk₁ m' ys vs (hn'.at' fun o e => hk₁ _ o hCw e) (hacc'.at fun o e => hk₁ _ o hDw e) hin hP (hF.mono fun _ _ hy => hy.keep fun b o _ hbf _ e => hk₁ b o hbf e) fun b o hbC hbf hbD e => hk₁ b o hbf (hk b o hbC hbf hbD e)
end
section
variable {prog : Program} {w : World} {A : Around} {E : Value → Shared → Prop} {env : Env}
theorem comp_block_obj {elt iter : PySem.Expr} {x : Str} {px : Pos} {scope : Scope} {cl : List (Str × Addr)} {pos : Pos} {s₂ : Shared} {I : Addr} {fp wr : List Addr} {n : Nat} {P : Nat → Value → Prop}
    {St : Nat → Heap → Prop} (W : Walks prog w A I fp wr n P St) (hsz : n ≤ sizeLine) (G : Value → Obj → Prop) {RR : Value → Addr → Result → Shared → Prop}
    (hlive : ∀ i h, St i h → ∀ b ∈ wr, ∃ o, h.get? b = some o)
    (hcell : ∀ y ∈ scope.names, y.2 ≠ .cell) (hkind : scope.kind = .function) (hx : scope.names.lookup x = some .local) (hst : St 0 s₂.heap) (hfp : ∀ b ∈ fp, b < s₂.heap.objs.size)
    (hq : ∀ C i v s₃ m₃ E', s₂.heap.objs.size ≤ C → P i v → s₃.heap.Ns C m₃ → m₃ x = some v → (∀ b o, b ∉ wr → s₂.heap.get? b = some o → s₃.heap.get? b = some o) →
      wpAny (model prog w) A (eval elt (compEnvC scope cl C env)) (fun y s₄ => (∃ T o, y = .ref T ∧ s₃.heap.get? T = none ∧ s₄.heap.get? T = some o ∧ G v o) ∧ Keeps s₃ s₄) E' s₃)
    (hRR : ∀ D C h' tk m' ys (vs : List Value), s₂.heap.objs.size ≤ D → s₂.heap.get? C = none → D ≠ C → h'.Ns C m' → h'.PlainList D ys → vs.length = n → (∀ j v, vs[j]? = some v → P j v) →
      Paired (ObjAt s₂.heap C D wr G h') vs ys.toList →
      (∀ b o, b ∉ wr → s₂.heap.get? b = some o → h'.get? b = some o) → RR (.ref D) C (.ok .next) { s₂ with heap := h', toks := tk }) :
    wpAny (model prog w) A (newList []) (fun acc s₃ => wpAny (model prog w) A (newFunctionEnv scope env.globals cl [] env.qual none .none (some env)) (fun cenv s₄ =>
      codeAny (model prog w) A (.compStart (.ListComp elt [⟨.Name x px, iter, [], 0⟩] scope pos) 0 (.ref I) acc { cenv with scope := relabel scope env }) (RR acc cenv.locals) s₄) E s₃) E s₂ := by
  refine wpAny_newObj_type (wpAny_newFunctionEnv hcell (by intro y hy; simp at hy) (fun h₁ hns₁ hsb₁ => ?_) hkind)
  dsimp only at hns₁ hsb₁ ⊢
  generalize hH2 : s₂.heap.push { cls := .type "list", dict := none, data := .seq ([] : List Value).toArray } = H2 at hns₁ hsb₁ ⊢
  have hC : H2.objs.size = s₂.heap.objs.size + 1 := by rw [← hH2, Heap.size_push]
  have hDC : s₂.heap.objs.size ≠ H2.objs.size := by rw [hC]; exact Nat.ne_of_lt (Nat.lt_succ_self _)
  have hCle : s₂.heap.objs.size ≤ H2.objs.size := by rw [hC]; exact Nat.le_succ _
  have below : ∀ b, b < s₂.heap.objs.size → b ≠ H2.objs.size ∧ b ≠ s₂.heap.objs.size := fun b hb => ⟨by rw [hC]; exact Nat.ne_of_lt (Nat.lt_succ_of_lt hb), Nat.ne_of_lt hb⟩
  have hDf : s₂.heap.objs.size ∉ fp := fun hm => Nat.lt_irrefl _ (hfp _ hm)
  have hCf : H2.objs.size ∉ fp := fun hm => by have := hfp _ hm; rw [hC] at this; exact Nat.lt_irrefl _ (Nat.lt_of_succ_lt this)
  have old : ∀ b o, s₂.heap.get? b = some o → h₁.get? b = some o := fun b o e => hsb₁.extBut b o (below b (Heap.lt_size e)).1 (Heap.get?_push_of_some _ (hH2 ▸ Heap.get?_push_of_some _ e))
  have hacc : h₁.PlainList s₂.heap.objs.size #[] := ⟨_, hsb₁.extBut _ _ hDC (Heap.get?_push_of_some _ (hH2 ▸ Heap.get?_push_size _ rfl))⟩
  have hst₁ : St 0 h₁ := W.frame _ _ _ hst fun b _ o e => old b o e
  have fresh : ∀ a, s₂.heap.objs.size ≤ a → s₂.heap.get? a = none := fun a ha => by
    cases e : s₂.heap.get? a with
    | none => rfl
    | some o' => exact absurd (Heap.lt_size e) (Nat.not_lt.mpr ha)
  have older : ∀ T, h₁.get? T = none → s₂.heap.get? T = none := fun T hT => by
    cases e : s₂.heap.get? T with
    | none => rfl
    | some o' => rw [old T o' e] at hT; cases hT
  have loop : ∀ s₃ : Shared, s₃ = { s₂ with heap := h₁, toks := s₂.toks + ([] : List (Str × Value)).length } →
      codeAny (model prog w) A (.compLoop (.ListComp elt [⟨.Name x px, iter, [], 0⟩] scope pos) 0 (.ref I) (.ref s₂.heap.objs.size) (compEnvC scope cl H2.objs.size env))
        (RR (.ref s₂.heap.objs.size) H2.objs.size) s₃ := by
    rintro s₃ rfl
    refine comp_loop_obj (hsz := hsz) (cenv := compEnvC scope cl H2.objs.size env) W G hlive (lookup_relabel_local hx) (by simp [compEnvC, relabel, hkind]) hDC hDf hCf hst₁ hacc hns₁
      (fun i v s₃ m₃ hv hn hm hk => hq _ i v s₃ m₃ _ hCle hv hn hm (fun b o hbf e => hk b o (below b (Heap.lt_size e)).1 hbf (below b (Heap.lt_size e)).2 (old b o e))) fun h' tk m' ys vs hn hpl hlen hP hF hk => ?_
    exact hRR _ _ h' tk m' ys vs (Nat.le_refl _) (fresh _ (by rw [hC]; exact Nat.le_succ _)) hDC hn hpl hlen hP
      (hF.mono fun _ _ hy => by obtain ⟨T, its, rfl, h1, a, b, c, d, e⟩ := hy; exact ⟨T, its, rfl, older T h1, a, b, c, d, e⟩) fun b o hbf e =>
      hk b o (below b (Heap.lt_size e)).1 hbf (below b (Heap.lt_size e)).2 (old b o e)
  exact codeAny_compStart_list (loop _ rfl) (W.self 0 _ _ _ hst₁ (loop _ rfl))
end
/-- the objects at these references -/
noncomputable def objsAt (h : Heap) (ys : List Value) : List (Addr × Obj) := ys.filterMap fun y => match y with | .ref T => (h.get? T).map fun o => (T, o) | _ => none
theorem mem_objsAt {h : Heap} {ys : List Value} {T : Addr} {o : Obj} (hy : Value.ref T ∈ ys) (ho : h.get? T = some o) : (T, o) ∈ objsAt h ys :=
  List.mem_filterMap.mpr ⟨_, hy, by simp [ho]⟩
theorem of_objsAt {h : Heap} {ys : List Value} {q : Addr × Obj} (hq : q ∈ objsAt h ys) : Value.ref q.1 ∈ ys ∧ h.get? q.1 = some q.2 := by
  obtain ⟨y, hy, e⟩ := List.mem_filterMap.mp hq
  cases y with
  | ref T =>
    cases ho : h.get? T with
    | none => simp [ho] at e
    | some o => simp [ho] at e; subst e; exact ⟨hy, ho⟩
  | _ => simp at e
theorem paired_mem {F F' : Value → Value → Prop} : ∀ {vs ys : List Value}, Paired F vs ys → (∀ v y, y ∈ ys → F v y → F' v y) → Paired F' vs ys
  | _, _, .nil, _ => .nil
  | _, _, .cons h t, k => .cons (k _ _ (.head _) h) (paired_mem t fun v y hy => k v y (.tail _ hy))
theorem paired_right {F : Value → Value → Prop} : ∀ {vs ys : List Value}, Paired F vs ys → ∀ y ∈ ys, ∃ v, F v y
  | _, _, .cons h _, _, .head _ => ⟨_, h⟩
  | _, _, .cons _ t, _, .tail _ m => paired_right t _ m
section
variable {prog : Program} {w : World} {A : Around} {E : Value → Shared → Prop} {env : Env} {s : Shared} {h₀ : Heap} {L : Addr} {m : Str → Option Value}
/-- what a comprehension over a list of the ledger asks of its item -/
def CompElt (prog : Program) (w : World) (A : Around) (cenv : Addr → Env) (x : Str) (elt : PySem.Expr) (G : Value → Obj → Prop) (vs : List Value) (s₁ : Shared) : Prop :=
  ∀ C v s₂ m₂ E', s₁.heap.objs.size ≤ C → v ∈ vs → s₂.heap.Ns C m₂ → m₂ x = some v → (∀ b o, s₁.heap.get? b = some o → s₂.heap.get? b = some o) →
    wpAny (model prog w) A (eval elt (cenv C)) (fun y s₃ => (∃ T o, y = .ref T ∧ s₂.heap.get? T = none ∧ s₃.heap.get? T = some o ∧ G v o) ∧ Keeps s₂ s₃) E' s₂
/-- what it leaves -/
def CompLeft (h₀ : Heap) (L : Addr) (m : Str → Option Value) (G : Value → Obj → Prop) (vs : List Value) (news : List (Addr × Obj)) (s₁ : Shared) (Q : Value → Shared → Prop) : Prop :=
  ∀ D ys objs nn h' tk, Fr h₀ L h' m → News h₀ L h' ((D, listOf (List.toArray ys) nn) :: (objs ++ news)) → (∀ p ∈ news, p.1 < D) → (∀ q ∈ objs, ∀ p ∈ news, q.1 ≠ p.1) → (∀ q ∈ objs, q.1 ≠ D) → Paired (fun v y => ∃ T o, y = .ref T ∧ (T, o) ∈ objs ∧ G v o) vs ys →
    Q (.ref D) { s₁ with heap := h', toks := tk }
theorem ListComp_obj (_F : Fr h₀ L s.heap m) {elt iter : PySem.Expr} {x : Str} {px : Pos} {scope : Scope} {cl : List (Str × Addr)} {pos : Pos} {Q : Value → Shared → Prop} (G : Value → Obj → Prop)
    (hh : A.handled = none) (hclos : closureFor scope env = pure cl) (hcell : ∀ y ∈ scope.names, y.2 ≠ .cell) (hkind : scope.kind = .function)
    (hnames : ∀ y ∈ scope.names, y.2 = .local → scope.names.lookup y.1 = some .local) (hx : scope.names.lookup x = some .local)
    (h : wpAny (model prog w) A (eval iter env) (fun xv s₁ => ∃ (news : List (Addr × Obj)) (ax : Addr) (vs : List Value) (nn : Nat), xv = .ref ax ∧ (ax, listOf vs.toArray nn) ∈ news ∧ vs.length ≤ 100000 ∧ Fr h₀ L s₁.heap m ∧ News h₀ L s₁.heap news ∧
      CompElt prog w A (fun C => compEnvC scope cl C env) x elt G vs s₁ ∧ CompLeft h₀ L m G vs news s₁ Q) E s)
    (hs : ∀ x, foldedSetIterable iter env x = pure x) :
    wpAny (model prog w) A (eval (.ListComp elt [⟨.Name x px, iter, [], 0⟩] scope pos) env) Q E s := by
  rw [eval_ListComp]
  refine wpAny_comprehension_free (use := none) rfl hs hclos hkind hnames (wpAny_mono h (fun xv s₁ h₁ => ?_) fun _ _ e => e)
  obtain ⟨news, ax, vs, nn, rfl, hm, hsz, F, N, helt, hQ⟩ := h₁
  have hol : s₁.heap.get? ax = some (listOf vs.toArray nn) := (N _ hm).1
  have hl : s₁.heap.IsList ax vs.toArray := ⟨_, hol, rfl, nn, rfl⟩
  have hlt : ax < s₁.heap.objs.size := Heap.lt_size hol
  refine wpAny_pyIter_list hl ?_
  have up : ∀ (h' : Heap), (∀ b o, b ∉ [s₁.heap.objs.size] → (s₁.heap.push { cls := .type "list_iterator", data := .fields #[.ref ax, .int 0 0] }).get? b = some o → h'.get? b = some o) → ∀ b o, s₁.heap.get? b = some o → h'.get? b = some o :=
    fun h' hk b o e => hk b o (fun hm => by rcases List.mem_cons.mp hm with rfl | hm; exact Nat.lt_irrefl _ (Heap.lt_size e); cases hm) (Heap.get?_push_of_some _ e)
  refine comp_block_obj (RR := fun acc C => compPost (model prog w) A E none Q acc C) (Walks.list hh s₁.heap.objs.size ax (Nat.ne_of_lt hlt) vs.toArray) (by simp only [List.size_toArray, sizeLine_eq]; omega) G
    (fun i h st b hb => by obtain ⟨o, e, _⟩ := st.1; rw [List.mem_singleton.mp hb]; exact ⟨o, e⟩) hcell hkind hx ⟨⟨_, Heap.get?_push_size _ rfl, rfl, rfl⟩, hl.push _⟩ ?_ ?_ ?_
  · intro b hb
    show b < (s₁.heap.push _).objs.size
    rw [Heap.size_push]
    rcases List.mem_cons.mp hb with rfl | hb
    · exact Nat.lt_succ_self _
    · rcases List.mem_cons.mp hb with rfl | hb
      · exact Nat.lt_succ_of_lt hlt
      · cases hb
  · intro C i v s₃ m₃ E' hC hP hn hm' hk
    exact helt C v s₃ m₃ E' (Nat.le_of_succ_le (by simpa [Heap.size_push] using hC)) (by simpa using Array.mem_of_getElem? hP) hn hm' (up _ hk)
  · intro D C h' tk m' ys vs' hD hC hDC hnC hpl hlen hP hF hk
    have e : vs' = vs := by simpa using list_of_places hlen hP
    subst e
    have hD' : s₁.heap.objs.size < D := Nat.lt_of_succ_le (by simpa [Heap.size_push] using hD)
    refine ⟨m', hnC, fun h'' hs'' => ?_⟩
    obtain ⟨kk, hplD⟩ := hpl
    have hF' : Paired (ObjAt (s₁.heap.push { cls := .type "list_iterator", data := .fields #[.ref ax, .int 0 0] }) C D [s₁.heap.objs.size] G h'') vs' ys.toList := hF.mono fun _ _ hy => by
      obtain ⟨T, o, rfl, h1, hTC, hTw, hTD, ho, hG⟩ := hy
      exact ⟨T, o, rfl, h1, hTC, hTw, hTD, hs''.extBut T o hTC ho, hG⟩
    have keep : ∀ b o, s₁.heap.get? b = some o → h''.get? b = some o := fun b o e => by
      refine hs''.extBut b o ?_ (up h' hk b o e)
      rintro rfl
      rw [Heap.get?_push_of_some _ e] at hC; cases hC
    have new : ∀ T, (s₁.heap.push { cls := .type "list_iterator", data := .fields #[.ref ax, .int 0 0] }).get? T = none → s₁.heap.get? T = none := fun T hT => by
      cases e : s₁.heap.get? T with
      | none => rfl
      | some o => rw [Heap.get?_push_of_some _ e] at hT; cases hT
    have fresh : ∀ T, s₁.heap.get? T = none → T ≠ L ∧ h₀.get? T = none := fun T hT => by
      refine ⟨fun e => ?_, ?_⟩
      · obtain ⟨o, _, _, ho, _⟩ := F.ns
        rw [e, ho] at hT; cases hT
      · cases e : h₀.get? T with
        | none => rfl
        | some o => rw [F.keep _ _ e] at hT; cases hT
    have hDn : s₁.heap.get? D = none := by
      cases e : s₁.heap.get? D with
      | none => rfl
      | some o => exact absurd (Heap.lt_size e) (Nat.not_lt.mpr (Nat.le_of_lt hD'))
    have objNew : ∀ q ∈ objsAt h'' ys.toList, s₁.heap.get? q.1 = none ∧ q.1 ≠ D := fun q hq => by
      obtain ⟨hy, _⟩ := of_objsAt hq
      obtain ⟨v, T, o, e, h1, _, _, hTD, _, _⟩ := paired_right hF' _ hy
      cases e
      exact ⟨new _ h1, hTD⟩
    refine hQ D ys.toList (objsAt h'' ys.toList) kk h'' tk (F.keeps keep) ?_ (fun p hp => Nat.lt_trans (Heap.lt_size (N p hp).1) hD') (fun q hq p hp e => ?_) (fun q hq => (objNew q hq).2) (paired_mem hF' fun v y hy hh => ?_)
    · intro p hp
      rcases List.mem_cons.mp hp with rfl | hp
      · refine ⟨?_, fresh D hDn⟩
        have := hs''.extBut D _ hDC hplD
        rw [this]
      · rcases List.mem_append.mp hp with hp | hp
        · exact ⟨(of_objsAt hp).2, fresh _ (objNew p hp).1⟩
        · exact N.grown keep p hp
    · have := (objNew q hq).1
      rw [e, (N p hp).1] at this; cases this
    · obtain ⟨T, o, rfl, _, _, _, _, ho, hG⟩ := hh
      exact ⟨T, o, rfl, mem_objsAt hy ho, hG⟩
end
theorem get_size (h : Heap) : h.get? h.objs.size = none := by
  cases e : h.get? h.objs.size with
  | none => rfl
  | some o => exact absurd (Heap.lt_size e) (Nat.lt_irrefl _)
theorem item_made {M : Model} {A : Around} {E : Value → Shared → Prop} {s : Shared} {items : List Value} {G : Value → Obj → Prop} {v : Value} (hG : G v (tupO items)) (hl : items.length ≤ sizeLine) :
    wpAny M A (newTuple items) (fun y s₃ => (∃ T o, y = .ref T ∧ s.heap.get? T = none ∧ s₃.heap.get? T = some o ∧ G v o) ∧ Keeps s s₃) E s :=
  wpAny_newTuple ⟨⟨_, _, rfl, get_size _, Heap.get?_push_size _ rfl, hG⟩, ⟨_, _, rfl, fun _ _ e => Heap.get?_push_of_some _ e⟩⟩ hl
theorem news_pair {h₀ h : Heap} {L : Addr} {d a b : Addr × Obj} {objs news : List (Addr × Obj)} (N : News h₀ L h (d :: (objs ++ news))) (h1 : a ∈ objs) (h2 : b ∈ objs) : News h₀ L h (d :: a :: b :: news) := fun q hq => N q (by
  simp only [List.mem_cons, List.mem_append] at hq ⊢
  rcases hq with rfl | rfl | rfl | h
  · exact .inl rfl
  · exact .inr (.inl h1)
  · exact .inr (.inl h2)
  · exact .inr (.inr h))
theorem two_eq {m : Str → Option Value} {a b : Str} {v w : Value} (h1 : m a = some v) (h2 : m b = some w) : m = (fun z => if z = a then some v else if z = b then some w else m z) := by
  funext z
  by_cases h3 : z = a
  · subst h3; simp [h1]
  · by_cases h4 : z = b
    · subst h4; simp [h2, h3]
    · simp [h3, h4]
section
variable {prog : Program} {w : World} {A : Around} {E : Value → Shared → Prop} {s : Shared} {env : Env} {h₀ : Heap} {body : List Stmt} {Q : Flow → Shared → Prop}
/-- what a turn of the straightening leaves -/
def StrPost (h₀ : Heap) (L fl ol : Addr) (lo : Obj) (S : List Value) (T1 T2 : List (Addr × Obj)) (o : Ord) (s : Shared) (f : Flow) (s' : Shared) : Prop :=
  (f = .next) ∧ ∃ (v' : Value) (X : List (Addr × Obj)) (kk : Nat) (h' : Heap) (tk' : Nat) (m' : Str → Option Value), s' = { s with heap := h', toks := tk' } ∧ Fr h₀ L h' m' ∧ m' (Str.ofString "orders") = some (.ref ol) ∧ m' (Str.ofString "found") = some (.ref fl) ∧
    News h₀ L h' ((fl, listOf (S ++ [v']).toArray kk) :: (ol, lo) :: (X ++ T2)) ∧ (∀ p ∈ X, p.1 ≠ fl ∧ p.1 ≠ ol ∧ ∀ q ∈ T2, p.1 ≠ q.1) ∧ OrdIn (X ++ T1) v' o
theorem str_iter {fl ol : Addr} {V : List Value} {spec : List Ord} {kk k0 : Nat} {m : Str → Option Value} {nx0 T1 : List (Addr × Obj)} (hh : A.handled = none) (F : Fr h₀ env.locals s.heap m) (m1 : m (Str.ofString "orders") = some (.ref ol)) (m2 : m (Str.ofString "found") = some (.ref fl))
    (N : News h₀ env.locals s.heap nx0) (hol : (ol, listOf V.toArray kk) ∈ nx0) (hfl : (fl, listOf ([] : List Value).toArray k0) ∈ nx0) (hT : ∀ p ∈ T1, p ∈ nx0) (hoff : OwnOff T1 [fl, ol]) (hO : OrdsIn T1 V spec)
    (turn : ∀ (i : Nat) (v : Value) (o : Ord) (S : List Value) (kk' : Nat) (Ta Tb : List (Addr × Obj)) (h : Heap) (tk : Nat) (u : Str → Option Value), V[i]? = some v → spec[i]? = some o → (∀ p ∈ T1, p ∈ Ta) → (∀ p ∈ Ta, p ∈ Tb) → OwnOff Tb [fl, ol] → S.length = i → OrdIn Ta v o →
      Fr h₀ env.locals h (fun z => if z = Str.ofString "order" then some v else if z = Str.ofString "orders" then some (.ref ol) else if z = Str.ofString "found" then some (.ref fl) else u z) →
      News h₀ env.locals h ((fl, listOf S.toArray kk') :: (ol, listOf V.toArray kk) :: Tb) →
      wpAny (model prog w) A (execs body env) (StrPost h₀ env.locals fl ol (listOf V.toArray kk) S Ta Tb o { s with heap := h, toks := tk }) E { s with heap := h, toks := tk })
    (done : ∀ (S : List Value) (kk' : Nat) (Ta : List (Addr × Obj)) (h : Heap) (tk : Nat) (u : Str → Option Value), OrdsIn Ta S spec → (∀ p ∈ T1, p ∈ Ta) → OwnOff Ta [fl, ol] →
      Fr h₀ env.locals h (fun z => if z = Str.ofString "orders" then some (.ref ol) else if z = Str.ofString "found" then some (.ref fl) else u z) →
      News h₀ env.locals h ((fl, listOf S.toArray kk') :: (ol, listOf V.toArray kk) :: Ta) → Q .next { s with heap := h, toks := tk }) :
    wpAny (model prog w) A (pyIter (.ref ol)) (fun it s₂ => LoopAtV prog w A h₀ env (Str.ofString "order") body Q E it s₂) E s := by
  have hVl := hO.length
  refine kdl_iter (news := (fl, listOf ([] : List Value).toArray k0) :: (ol, listOf V.toArray kk) :: T1)
    (fun i m nx => ∃ (S : List Value) (kk' : Nat) (Ta : List (Addr × Obj)), nx = (fl, listOf S.toArray kk') :: (ol, listOf V.toArray kk) :: Ta ∧ m (Str.ofString "orders") = some (.ref ol) ∧ m (Str.ofString "found") = some (.ref fl) ∧ (∀ p ∈ T1, p ∈ Ta) ∧ OwnOff Ta [fl, ol] ∧ OrdsIn Ta S (spec.take i) ∧ S.length = i)
    hh (.tail _ (.head _)) F (fun p hp => N p ?_) ⟨[], k0, T1, rfl, m1, m2, fun _ h => h, hoff, by simpa using OrdsIn.nil, rfl⟩ ?_ ?_
  · rcases List.mem_cons.mp hp with rfl | hp
    · exact hfl
    · rcases List.mem_cons.mp hp with rfl | hp
      · exact hol
      · exact hT p hp
  · rintro i v m₁ news₁ h tk own hv hown hlm ⟨S, kk', Ta, rfl, h1, h2, hs, ho, hS, hlen⟩ F₁ N₁
    have hi : i < spec.length := by
      rw [← hVl]
      exact (List.getElem?_eq_some_iff.mp hv).1
    have hso : spec[i]? = some spec[i] := List.getElem?_eq_getElem hi
    obtain ⟨v2, hv2, hov⟩ := hO.get i _ hso
    rw [hv] at hv2
    cases hv2
    rw [two_eq h1 h2] at F₁
    have hTb : OwnOff (Ta ++ own) [fl, ol] := by
      intro p hp b hb
      rcases List.mem_append.mp hp with hp | hp
      · exact ho p hp b hb
      · refine hown p hp b ?_
        simp only [List.mem_cons, List.not_mem_nil, or_false] at hb
        rcases hb with rfl | rfl
        · exact .head _
        · exact .tail _ (.head _)
    refine wpAny_mono (turn i v spec[i] S kk' Ta (Ta ++ own) h tk m₁ hv hso hs (fun p hp => List.mem_append_left _ hp) hTb hlen (hov.mono hs) F₁ N₁) (fun f s₂ p => ?_) fun _ _ e => e
    obtain ⟨rfl, v', X, kk2, h', tk', m', rfl, F', m1', m2', N', hX, hO'⟩ := p
    refine InvEndG.intro (nx := (fl, listOf (S ++ [v']).toArray kk2) :: (ol, listOf V.toArray kk) :: (X ++ Ta)) F' N' ⟨.tail _ (.head _), S ++ [v'], kk2, X ++ Ta, rfl, m1', m2', fun p hp => List.mem_append_right _ (hs p hp), ?_, ?_, by simp [hlen]⟩ ?_ ?_ ?_
    · intro p hp b hb
      rcases List.mem_append.mp hp with hp | hp
      · simp only [List.mem_cons, List.not_mem_nil, or_false] at hb
        rcases hb with rfl | rfl
        · exact (hX p hp).1
        · exact (hX p hp).2.1
      · exact ho p hp b hb
    · rw [List.take_add_one, hso]
      exact (hS.mono fun p hp => List.mem_append_right _ hp).append (.one hO')
    · intro p hp b hb
      obtain ⟨q, hq, rfl⟩ := List.mem_map.mp hb
      simp only [List.mem_cons, List.mem_append] at hq
      rcases hq with rfl | rfl | hq | hq
      · exact hown p hp _ (.head _)
      · exact hown p hp _ (.tail _ (.head _))
      · exact Ne.symm ((hX q hq).2.2 p (List.mem_append_right _ hp))
      · exact hown p hp _ (.tail _ (.tail _ (List.mem_map_of_mem hq)))
    · intro p hp
      simp only [List.mem_cons, List.mem_append] at hp ⊢
      rcases hp with h | h | h | h
      · exact .inl h
      · exact .inr (.inl h)
      · exact .inr (.inr (.inl h))
      · exact .inr (.inr (.inr (.inl h)))
    · intro p hp
      simp only [List.mem_cons, List.mem_append]
      exact .inr (.inr (.inr (.inr hp)))
  · rintro m₁ news₁ h tk ⟨S, kk', Ta, rfl, h1, h2, hs, ho, hS, hlen⟩ F₁ N₁
    rw [two_eq h1 h2] at F₁
    refine done S kk' Ta h tk m₁ ?_ hs ho F₁ N₁
    rw [hVl, List.take_length] at hS
    exact hS
end
theorem news_lits2 {h₀ h : Heap} {L : Addr} {a b : Addr × Obj} {T : List (Addr × Obj)} (ps : List (Addr × Obj)) (N : News h₀ L h (a :: b :: T)) (hp : ∀ p ∈ ps, p ∈ T) : News h₀ L h (a :: b :: (ps ++ T)) := fun q hq => N q (by
  simp only [List.mem_cons, List.mem_append] at hq ⊢
  rcases hq with h | h | h | h
  · exact .inl h
  · exact .inr (.inl h)
  · exact .inr (.inr (hp q h))
  · exact .inr (.inr h))
noncomputable def Ord.isJump : Ord → Bool
  | .jump _ => true
  | _ => false
/-- every goal stands, and is no jump itself -/
def Straight (spec : List Ord) : Prop := ∀ g : Nat, (Ord.split g ∈ spec ∨ Ord.jump g ∈ spec) → ∃ o, spec[g]? = some o ∧ o.isJump = false
theorem OrdIn.head {T : List (Addr × Obj)} {v : Value} {o : Ord} (h : OrdIn T v o) (hj : o.isJump = false) : ∃ (a : Addr) (k : Str) (t : Tok) (rest : List Value), v = .ref a ∧ (a, tupO (.str k t :: rest)) ∈ T ∧ k ≠ Str.ofString "jump" := by
  cases h with
  | one h => exact ⟨_, _, _, _, rfl, h, by decide⟩
  | split h => exact ⟨_, _, _, _, rfl, h, by decide⟩
  | jump h => cases hj
  | mark h => exact ⟨_, _, _, _, rfl, h, by decide⟩
  | gain h => exact ⟨_, _, _, _, rfl, h, by decide⟩
  | name h => exact ⟨_, _, _, _, rfl, h, by decide⟩
  | set h => exact ⟨_, _, _, _, rfl, h, by decide⟩
  | done h => exact ⟨_, _, _, _, rfl, h, by decide⟩
section
variable {prog : Program} {w : World} {A : Around} {E : Value → Shared → Prop} {s : Shared} {env : Env} {h₀ : Heap} {body : List Stmt} {Q : Flow → Shared → Prop} {L fl ol : Addr} {lo : Obj}
theorem str_keep {S : List Value} {Ta Tb l : List (Addr × Obj)} {o : Ord} {v : Value} {kk : Nat} {h' : Heap} {tk' : Nat} {m' : Str → Option Value} (hov : OrdIn Ta v o) (F : Fr h₀ L h' m') (m1 : m' (Str.ofString "orders") = some (.ref ol)) (m2 : m' (Str.ofString "found") = some (.ref fl)) (N : News h₀ L h' l)
    (hfl : (fl, listOf (S ++ [v]).toArray kk) ∈ l) (hol : (ol, lo) ∈ l) (hTb : ∀ p ∈ Tb, p ∈ l) : StrPost h₀ L fl ol lo S Ta Tb o s .next { s with heap := h', toks := tk' } :=
  ⟨rfl, v, [], kk, h', tk', m', rfl, F, m1, m2, fun p hp => N p (by
    simp only [List.mem_cons, List.nil_append] at hp
    rcases hp with rfl | rfl | hp
    · exact hfl
    · exact hol
    · exact hTb p hp), (fun _ hp => (nomatch hp)), hov⟩
theorem str_new {S : List Value} {Ta Tb l : List (Addr × Obj)} {o : Ord} {D : Addr} {ob : Obj} {kk : Nat} {h' : Heap} {tk' : Nat} {m' : Str → Option Value} (F : Fr h₀ L h' m') (m1 : m' (Str.ofString "orders") = some (.ref ol)) (m2 : m' (Str.ofString "found") = some (.ref fl)) (N : News h₀ L h' l)
    (hfl : (fl, listOf (S ++ [Value.ref D]).toArray kk) ∈ l) (hol : (ol, lo) ∈ l) (hD : (D, ob) ∈ l) (hTb : ∀ p ∈ Tb, p ∈ l) (hov : OrdIn ((D, ob) :: Ta) (.ref D) o) (n1 : D ≠ fl) (n2 : D ≠ ol) (n3 : ∀ p ∈ Tb, p.1 ≠ D) : StrPost h₀ L fl ol lo S Ta Tb o s .next { s with heap := h', toks := tk' } :=
  ⟨rfl, .ref D, [(D, ob)], kk, h', tk', m', rfl, F, m1, m2, fun p hp => N p (by
    simp only [List.mem_cons, List.cons_append, List.nil_append] at hp
    rcases hp with rfl | rfl | rfl | hp
    · exact hfl
    · exact hol
    · exact hD
    · exact hTb p hp), (fun p hp => by
      obtain rfl := List.mem_singleton.mp hp
      exact ⟨n1, n2, fun q hq => Ne.symm (n3 q hq)⟩), hov⟩
theorem str_iter2 {O : List Value} {spec : List Ord} {kk k0 : Nat} {m : Str → Option Value} {nx0 T0 : List (Addr × Obj)} {Dd : Addr} {td : Tok} (hh : A.handled = none) (F : Fr h₀ env.locals s.heap m) (m1 : m (Str.ofString "orders") = some (.ref ol)) (m2 : m (Str.ofString "found") = some (.ref fl))
    (N : News h₀ env.locals s.heap nx0) (hol : (ol, listOf (O ++ [Value.ref Dd]).toArray kk) ∈ nx0) (hfl : (fl, listOf ([] : List Value).toArray k0) ∈ nx0) (hdd : (Dd, tupO [sv "done" td]) ∈ nx0) (hT : ∀ p ∈ T0, p ∈ nx0) (d1 : Dd ≠ fl) (d2 : Dd ≠ ol) (hoff : OwnOff T0 [fl, ol]) (hO : OrdsIn T0 O spec)
    (hst : Straight (spec ++ [.done])) (hlen : spec.length ≤ 15000)
    (turn : ∀ (i : Nat) (v : Value) (o : Ord) (S : List Value) (kk' : Nat) (Ta Tb : List (Addr × Obj)) (h : Heap) (tk : Nat) (u : Str → Option Value), (∀ g, o = .split g ∨ o = .jump g → ∃ (a : Addr) (k : Str) (t : Tok) (rest : List Value), (O ++ [Value.ref Dd])[g]? = some (.ref a) ∧ (a, tupO (.str k t :: rest)) ∈ Tb ∧ k ≠ Str.ofString "jump" ∧ g < 20000) →
      (O ++ [Value.ref Dd]).length ≤ 15001 → (∀ p ∈ Ta, p ∈ Tb) → OwnOff Tb [fl, ol] → S.length ≤ 20000 → OrdIn Ta v o →
      Fr h₀ env.locals h (fun z => if z = Str.ofString "order" then some v else if z = Str.ofString "orders" then some (.ref ol) else if z = Str.ofString "found" then some (.ref fl) else u z) →
      News h₀ env.locals h ((fl, listOf S.toArray kk') :: (ol, listOf (O ++ [Value.ref Dd]).toArray kk) :: Tb) →
      wpAny (model prog w) A (execs body env) (StrPost h₀ env.locals fl ol (listOf (O ++ [Value.ref Dd]).toArray kk) S Ta Tb o { s with heap := h, toks := tk }) E { s with heap := h, toks := tk })
    (done : ∀ (S : List Value) (kk' : Nat) (Ta : List (Addr × Obj)) (h : Heap) (tk : Nat) (u : Str → Option Value), OrdsIn Ta S (spec ++ [.done]) → (∀ p ∈ T0, p ∈ Ta) → OwnOff Ta [fl, ol] →
      Fr h₀ env.locals h (fun z => if z = Str.ofString "orders" then some (.ref ol) else if z = Str.ofString "found" then some (.ref fl) else u z) →
      News h₀ env.locals h ((fl, listOf S.toArray kk') :: (ol, listOf (O ++ [Value.ref Dd]).toArray kk) :: Ta) → Q .next { s with heap := h, toks := tk }) :
    wpAny (model prog w) A (pyIter (.ref ol)) (fun it s₂ => LoopAtV prog w A h₀ env (Str.ofString "order") body Q E it s₂) E s := by
  have hO1 : OrdsIn ((Dd, tupO [sv "done" td]) :: T0) (O ++ [Value.ref Dd]) (spec ++ [.done]) := (hO.mono fun p hp => .tail _ hp).append (.one (.done (.head _)))
  have hl := hO1.length
  simp only [List.length_append, List.length_cons, List.length_nil] at hl
  refine str_iter hh F m1 m2 N hol hfl (T1 := (Dd, tupO [sv "done" td]) :: T0) ?_ ?_ hO1 ?_ ?_
  · intro p hp
    rcases List.mem_cons.mp hp with rfl | hp
    · exact hdd
    · exact hT p hp
  · intro p hp b hb
    rcases List.mem_cons.mp hp with rfl | hp
    · simp only [List.mem_cons, List.not_mem_nil, or_false] at hb
      rcases hb with rfl | rfl
      · exact d1
      · exact d2
    · exact hoff p hp b hb
  · intro i v o S kk' Ta Tb h tk u hv ho h1 h2 h3 h4 h5 F N
    have hi := (List.getElem?_eq_some_iff.mp ho).1
    simp only [List.length_append, List.length_cons, List.length_nil] at hi
    refine turn i v o S kk' Ta Tb h tk u (fun g hg => ?_) (by simp only [List.length_append, List.length_cons, List.length_nil]; omega) h2 h3 (by omega) h5 F N
    have hm := List.mem_of_getElem? ho
    have hgm : Ord.split g ∈ spec ++ [Ord.done] ∨ Ord.jump g ∈ spec ++ [Ord.done] := by
      rcases hg with h | h
      · left; rw [← h]; exact hm
      · right; rw [← h]; exact hm
    obtain ⟨o', ho', hj⟩ := hst g hgm
    obtain ⟨v', hv', hov'⟩ := hO1.get g o' ho'
    obtain ⟨a, k, t, rest, rfl, hm', hk⟩ := hov'.head hj
    have hg' := (List.getElem?_eq_some_iff.mp ho').1
    simp only [List.length_append, List.length_cons, List.length_nil] at hg'
    exact ⟨a, k, t, rest, hv', h2 _ (h1 _ hm'), hk, by omega⟩
  · intro S kk' Ta h tk u h1 h2 h3 F N
    exact done S kk' Ta h tk u h1 (fun p hp => h2 p (.tail _ hp)) h3 F N
end
theorem get_at {α : Type} (X Y : List α) (k : Nat) : (X ++ Y)[X.length + k]? = Y[k]? := by
  rw [List.getElem?_append_right (by omega)]
  congr 1
  omega
theorem get_at' {α : Type} {X Y : List α} {k : Nat} (j : Nat) (h : k = X.length + j) : (X ++ Y)[k]? = Y[j]? := by
  rw [h, get_at]
/-- what the translator writes goes to no jump, whatever stands before it, if what comes after it is none -/
theorem code_straight : ∀ (nd : Nd) (pre post : List Ord) (o : Ord), post[0]? = some o → o.isJump = false → ∀ g : Nat, (Ord.split g ∈ code nd pre.length ∨ Ord.jump g ∈ code nd pre.length) →
    ∃ o', (pre ++ (code nd pre.length ++ post))[g]? = some o' ∧ o'.isJump = false
  | .len1, pre, post, o, ho, hj, g, h => by simp [code] at h
  | .arbno n, pre, post, o, ho, hj, g, h => by
    have ih := code_straight n (pre ++ [.split (pre.length + 2), .jump (pre.length + 3 + (code n (pre.length + 3)).length + 2), .mark]) ([.gain, .jump pre.length] ++ post) .gain rfl rfl g
    have el : (pre ++ [Ord.split (pre.length + 2), .jump (pre.length + 3 + (code n (pre.length + 3)).length + 2), .mark]).length = pre.length + 3 := by simp
    rw [el] at ih
    have ef : pre ++ (code (.arbno n) pre.length ++ post) = pre ++ [Ord.split (pre.length + 2), .jump (pre.length + 3 + (code n (pre.length + 3)).length + 2), .mark] ++ (code n (pre.length + 3) ++ ([.gain, .jump pre.length] ++ post)) := by simp [code]
    have h' : (g = pre.length + 2 ∨ g = pre.length + 3 + (code n (pre.length + 3)).length + 2 ∨ g = pre.length) ∨ (Ord.split g ∈ code n (pre.length + 3) ∨ Ord.jump g ∈ code n (pre.length + 3)) := by
      simp [code] at h
      rcases h with (h | h) | (h | h | h)
      · exact .inl (.inl h)
      · exact .inr (.inl h)
      · exact .inl (.inr (.inl h))
      · exact .inr (.inr h)
      · exact .inl (.inr (.inr h))
    rcases h' with (rfl | rfl | rfl) | h'
    · refine ⟨.mark, ?_, rfl⟩
      rw [get_at]; simp [code]
    · refine ⟨o, ?_, hj⟩
      rw [ef]
      rw [← List.append_assoc, ← List.append_assoc, get_at' 0 (by simp only [List.length_append, List.length_cons, List.length_nil])]
      exact ho
    · refine ⟨.split (pre.length + 2), ?_, rfl⟩
      have := get_at pre (code (.arbno n) pre.length ++ post) 0
      rw [Nat.add_zero] at this
      rw [this]; simp [code]
    · rw [ef]; exact ih h'
  | .later n r, pre, post, o, ho, hj, g, h => by
    have ih := code_straight n (pre ++ [.mark]) ([.name r] ++ post) (.name r) rfl rfl g
    have el : (pre ++ [Ord.mark]).length = pre.length + 1 := by simp
    rw [el] at ih
    have ef : pre ++ (code (.later n r) pre.length ++ post) = pre ++ [Ord.mark] ++ (code n (pre.length + 1) ++ ([.name r] ++ post)) := by simp [code]
    rw [ef]
    refine ih ?_
    simpa [code] using h
  | .now n r, pre, post, o, ho, hj, g, h => by
    have ih := code_straight n (pre ++ [.mark]) ([.set r] ++ post) (.set r) rfl rfl g
    have el : (pre ++ [Ord.mark]).length = pre.length + 1 := by simp
    rw [el] at ih
    have ef : pre ++ (code (.now n r) pre.length ++ post) = pre ++ [Ord.mark] ++ (code n (pre.length + 1) ++ ([.set r] ++ post)) := by simp [code]
    rw [ef]
    refine ih ?_
    simpa [code] using h
  | .altcat n, pre, post, o, ho, hj, g, h => by
    have ih := code_straight n (pre ++ [.split (pre.length + 1 + (code n (pre.length + 1)).length + 2)]) ([.one "pos" 2, .jump (pre.length + 1 + (code n (pre.length + 1)).length + 3), .one "pos" 3] ++ post) (.one "pos" 2) rfl rfl g
    have el : (pre ++ [Ord.split (pre.length + 1 + (code n (pre.length + 1)).length + 2)]).length = pre.length + 1 := by simp
    rw [el] at ih
    have ef : pre ++ (code (.altcat n) pre.length ++ post) = pre ++ [Ord.split (pre.length + 1 + (code n (pre.length + 1)).length + 2)] ++ (code n (pre.length + 1) ++ ([.one "pos" 2, .jump (pre.length + 1 + (code n (pre.length + 1)).length + 3), .one "pos" 3] ++ post)) := by simp [code]
    have h' : (g = pre.length + 1 + (code n (pre.length + 1)).length + 2 ∨ g = pre.length + 1 + (code n (pre.length + 1)).length + 3) ∨ (Ord.split g ∈ code n (pre.length + 1) ∨ Ord.jump g ∈ code n (pre.length + 1)) := by
      simp [code] at h
      rcases h with (h | h) | (h | h)
      · exact .inl (.inl h)
      · exact .inr (.inl h)
      · exact .inr (.inr h)
      · exact .inl (.inr h)
    rcases h' with (rfl | rfl) | h'
    · refine ⟨.one "pos" 3, ?_, rfl⟩
      rw [ef]
      rw [← List.append_assoc, get_at' 2 (by simp only [List.length_append, List.length_cons, List.length_nil])]
      rfl
    · refine ⟨o, ?_, hj⟩
      rw [ef]
      rw [← List.append_assoc, ← List.append_assoc, get_at' 0 (by simp only [List.length_append, List.length_cons, List.length_nil])]
      exact ho
    · rw [ef]; exact ih h'
theorem straight_all (nd : Nd) : Straight (code nd 0 ++ [.done]) := fun g h => by
  have := code_straight nd [] [.done] .done rfl rfl g (by simpa using h)
  simpa using this
section
variable {prog : Program} {w : World} {A : Around} {E : Value → Shared → Prop} {s : Shared} {env : Env} {h₀ : Heap} {x : Str} {body : List Stmt} {Q : Flow → Shared → Prop}
/-- a loop over a range, with an invariant of one's own -/
theorem rng_iter {r : Addr} {a₀ b₀ st : Int} {t₀ u₀ v₀ : Tok} {n : Nat} {m₀ : Str → Option Value} {news nx0 : List (Addr × Obj)} (J : Nat → (Str → Option Value) → List (Addr × Obj) → Prop)
    (hh : A.handled = none) (hr : IsRange s.heap r a₀ b₀ st t₀ u₀ v₀) (hsmall : Builtin.Range.small a₀ b₀ st = true) (hsz : Builtin.Range.rangeSize a₀ b₀ st = (n : Int)) (F : Fr h₀ env.locals s.heap m₀) (N : News h₀ env.locals s.heap news) (hn : ∀ p ∈ nx0, p ∈ news) (hj : J 0 m₀ nx0)
    (turn : ∀ (i : Nat) (k : Int) (t : Tok) (m₁ : Str → Option Value) (nx : List (Addr × Obj)) (h : Heap) (tk : Nat) (own : List (Addr × Obj)), i < n → k = a₀ + (i : Int) * st → OwnOff own (nx.map (·.1)) → J i m₁ nx →
      Fr h₀ env.locals h (fun y => if y = x then some (.int k t) else m₁ y) → News h₀ env.locals h (nx ++ own) →
      wpAny (model prog w) A (execs body env) (InvPostG h₀ env.locals (J (i + 1)) own { s with heap := h, toks := tk } Q) E { s with heap := h, toks := tk })
    (done : ∀ (m₁ : Str → Option Value) (nx : List (Addr × Obj)) (h : Heap) (tk : Nat), J n m₁ nx → Fr h₀ env.locals h m₁ → News h₀ env.locals h nx → Q .next { s with heap := h, toks := tk }) :
    wpAny (model prog w) A (pyIter (.ref r)) (fun it s₂ => LoopAtV prog w A h₀ env x body Q E it s₂) E s := by
  refine wpAny_pyIter_range hr hsmall ?_
  have W : Walks prog w A s.heap.objs.size [s.heap.objs.size] [s.heap.objs.size] n (fun i v => i < n ∧ ∃ t, v = .int (a₀ + i * st) t)
      (fun i h => IsRangeIter h s.heap.objs.size (a₀ + (i : Nat) * st) ((n : Int) - (i : Nat)) st) := (Walks.range hh _ a₀ st n).bound
  refine kdr_loop J W (fun _ h => h) (fun _ h => h) ?_ ?_ ?_ ?_ (by show IsRangeIter _ _ _ _ _; rw [hsz]; simpa using Heap.get?_push_size _ rfl) (F.push _) (fun p hp => ⟨Heap.get?_push_of_some _ (N p (hn p hp)).1, (N p (hn p hp)).2⟩) hj ?_ ?_
  · intro i h hi b hb
    rw [List.mem_singleton.mp hb]
    exact ⟨_, hi⟩
  · intro hm
    exact absurd F.ns.lt ((List.mem_singleton.mp hm) ▸ Nat.lt_irrefl _)
  · intro b hb
    rw [List.mem_singleton.mp hb]
    exact next_is_new F
  · intro p hp hI
    exact absurd (Heap.lt_size (N p (hn p hp)).1) ((List.mem_singleton.mp hI) ▸ Nat.lt_irrefl _)
  · rintro i v m₁ nx h tk own hi ⟨_, t, rfl⟩ hoff hJ F₁ N₁
    exact turn i _ t m₁ nx h tk own hi rfl hoff hJ F₁ N₁
  · intro m₁ nx h tk hJ F₁ N₁
    exact done m₁ nx h tk hJ F₁ N₁
end
noncomputable def repN : Nat → Nd
  | 0 => .len1
  | n + 1 => .arbno (repN n)
noncomputable def choN : Nat → Nd
  | 0 => .len1
  | n + 1 => .altcat (choN n)
theorem repN_depth : ∀ n, (repN n).depth = n + 1
  | 0 => rfl
  | n + 1 => by simp [repN, Nd.depth, repN_depth n]
theorem choN_depth : ∀ n, (choN n).depth = n + 1
  | 0 => rfl
  | n + 1 => by simp [choN, Nd.depth, choN_depth n]
theorem repN_len : ∀ (n b : Nat), (code (repN n) b).length = 5 * n + 1
  | 0, _ => rfl
  | n + 1, b => by simp [repN, code, repN_len n]; omega
theorem choN_len : ∀ (n b : Nat), (code (choN n) b).length = 4 * n + 1
  | 0, _ => rfl
  | n + 1, b => by simp [choN, code, choN_len n]; omega
theorem flat_congr {α β : Type} {l : List α} {f g : α → List β} (h : ∀ a ∈ l, f a = g a) : l.flatMap f = l.flatMap g := by
  induction l with
  | nil => rfl
  | cons a l ih =>
    simp only [List.flatMap_cons]
    rw [h a (.head _), ih fun b hb => h b (.tail _ hb)]
theorem repN_code : ∀ (n b : Nat), code (repN n) b = (List.range n).flatMap (fun i => [Ord.split (b + 3 * i + 2), .jump (b + 3 * n + 1 + 2 * (n - i)), .mark]) ++ ([.one "len" 1] ++ (List.range n).reverse.flatMap (fun i => [Ord.gain, .jump (b + 3 * i)]))
  | 0, _ => rfl
  | n + 1, b => by
    rw [repN, code, repN_len, repN_code n (b + 3), List.range_succ_eq_map, List.flatMap_cons, List.flatMap_map, List.reverse_cons, List.flatMap_append, ← List.map_reverse, List.flatMap_map]
    have e1 : (List.range n).flatMap (fun i => [Ord.split (b + 3 + 3 * i + 2), .jump (b + 3 + 3 * n + 1 + 2 * (n - i)), .mark]) = (List.range n).flatMap (fun i => [Ord.split (b + 3 * (i.succ) + 2), .jump (b + 3 * (n + 1) + 1 + 2 * (n + 1 - i.succ)), .mark]) := flat_congr fun i hi => by
      congr 2 <;> first | (congr 1; omega) | (congr 2; omega)
    have e2 : (List.range n).reverse.flatMap (fun i => [Ord.gain, .jump (b + 3 + 3 * i)]) = (List.range n).reverse.flatMap (fun i => [Ord.gain, .jump (b + 3 * (i.succ))]) := flat_congr fun i hi => by
      congr 3; omega
    rw [e1, e2]
    have e3 : b + 3 + (5 * n + 1) + 2 = b + 3 * (n + 1) + 1 + 2 * (n + 1 - 0) := by omega
    rw [e3]
    simp
theorem choN_code : ∀ (n b : Nat), code (choN n) b = (List.range n).map (fun i => Ord.split (b + 4 * n - 3 * i)) ++ ([.one "len" 1] ++ (List.range n).flatMap (fun i => [Ord.one "pos" 2, .jump (b + n + 4 + 3 * i), .one "pos" 3]))
  | 0, _ => rfl
  | n + 1, b => by
    rw [choN, code, choN_len, choN_code n (b + 1)]
    have e1 : (List.range (n + 1)).map (fun i => Ord.split (b + 4 * (n + 1) - 3 * i)) = Ord.split (b + 1 + (4 * n + 1) + 2) :: (List.range n).map (fun i => Ord.split (b + 1 + 4 * n - 3 * i)) := by
      rw [List.range_succ_eq_map, List.map_cons, List.map_map]
      congr 1
      · congr 1; omega
      · refine List.map_congr_left fun i hi => ?_
        show Ord.split _ = Ord.split _
        congr 1
        simp only [Nat.succ_eq_add_one]
        omega
    have e2 : (List.range (n + 1)).flatMap (fun i => [Ord.one "pos" 2, .jump (b + (n + 1) + 4 + 3 * i), .one "pos" 3]) = (List.range n).flatMap (fun i => [Ord.one "pos" 2, .jump (b + 1 + n + 4 + 3 * i), .one "pos" 3]) ++ [Ord.one "pos" 2, .jump (b + 1 + (4 * n + 1) + 3), .one "pos" 3] := by
      rw [List.range_succ, List.flatMap_append]
      congr 1
      · refine flat_congr fun i hi => ?_
        have : b + (n + 1) + 4 + 3 * i = b + 1 + n + 4 + 3 * i := by omega
        rw [this]
      · have : b + (n + 1) + 4 + 3 * n = b + 1 + (4 * n + 1) + 3 := by omega
        simp [this]
    rw [e1, e2]
    simp
noncomputable def latN (n : Nd) (rs : List Value) : Nd := rs.foldl .later n
noncomputable def nowN (n : Nd) (rs : List Value) : Nd := rs.foldl .now n
theorem latN_code : ∀ (rs : List Value) (n : Nd) (b : Nat), code (latN n rs) b = List.replicate rs.length .mark ++ (code n (b + rs.length) ++ rs.map .name)
  | [], n, b => by simp [latN]
  | r :: rs, n, b => by
    show code (latN (.later n r) rs) b = _
    rw [latN_code rs, code]
    have : b + rs.length + 1 = b + (r :: rs).length := by simp; omega
    rw [this, List.length_cons, List.replicate_succ']
    simp
theorem nowN_code : ∀ (rs : List Value) (n : Nd) (b : Nat), code (nowN n rs) b = List.replicate rs.length .mark ++ (code n (b + rs.length) ++ rs.map .set)
  | [], n, b => by simp [nowN]
  | r :: rs, n, b => by
    show code (nowN (.now n r) rs) b = _
    rw [nowN_code rs, code]
    have : b + rs.length + 1 = b + (r :: rs).length := by simp; omega
    rw [this, List.length_cons, List.replicate_succ']
    simp
theorem latN_depth : ∀ (rs : List Value) (n : Nd), (latN n rs).depth = n.depth + rs.length
  | [], n => rfl
  | r :: rs, n => by show (latN (.later n r) rs).depth = _; rw [latN_depth rs]; simp [Nd.depth]; omega
theorem nowN_depth : ∀ (rs : List Value) (n : Nd), (nowN n rs).depth = n.depth + rs.length
  | [], n => rfl
  | r :: rs, n => by show (nowN (.now n r) rs).depth = _; rw [nowN_depth rs]; simp [Nd.depth]; omega
section
variable {prog : Program} {w : World} {A : Around} {E : Value → Shared → Prop} {s : Shared} {env : Env} {h₀ : Heap} {body : List Stmt} {Q : Flow → Shared → Prop}
/-- what a turn of the building loop leaves -/
def LawPost (h₀ : Heap) (L rl : Addr) (C : Addr × Obj) (dv : Value) (fam : List Value → Nd) (S : List Value) (Ta Tb : List (Addr × Obj)) (s : Shared) (f : Flow) (s' : Shared) : Prop :=
  (f = .next) ∧ ∃ (r a' : Addr) (X : List (Addr × Obj)) (kk : Nat) (h' : Heap) (tk' : Nat) (m' : Str → Option Value), s' = { s with heap := h', toks := tk' } ∧ Fr h₀ L h' m' ∧ m' (Str.ofString "node") = some (.ref a') ∧ m' (Str.ofString "refs") = some (.ref rl) ∧ m' (Str.ofString "deep") = some dv ∧
    News h₀ L h' ((rl, listOf (S ++ [Value.ref r]).toArray kk) :: C :: (X ++ Tb)) ∧ (∀ p ∈ X, p.1 ≠ rl ∧ p.1 ≠ C.1 ∧ ∀ q ∈ Tb, p.1 ≠ q.1) ∧ NodeIn (X ++ Ta) (.ref a') (fam (S ++ [Value.ref r]))
theorem three_eq {m : Str → Option Value} {a b c : Str} {v w y : Value} (h1 : m a = some v) (h2 : m b = some w) (h3 : m c = some y) : m = (fun z => if z = a then some v else if z = b then some w else if z = c then some y else m z) := by
  funext z
  by_cases h4 : z = a
  · subst h4; simp [h1]
  · by_cases h5 : z = b
    · subst h5; simp [h2, h4]
    · by_cases h6 : z = c
      · subst h6; simp [h3, h4, h5]
      · simp [h4, h5, h6]
theorem law_iter {r : Addr} {b₀ : Int} {t₀ u₀ v₀ : Tok} {n : Nat} {m₀ : Str → Option Value} {news T0 : List (Addr × Obj)} {rl a0 : Addr} {C : Addr × Obj} {k0 : Nat} {dv : Value} (fam : List Value → Nd)
    (hh : A.handled = none) (hr : IsRange s.heap r 0 b₀ 1 t₀ u₀ v₀) (hsmall : Builtin.Range.small 0 b₀ 1 = true) (hsz : Builtin.Range.rangeSize 0 b₀ 1 = (n : Int)) (F : Fr h₀ env.locals s.heap m₀) (N : News h₀ env.locals s.heap news)
    (m1 : m₀ (Str.ofString "node") = some (.ref a0)) (m2 : m₀ (Str.ofString "refs") = some (.ref rl)) (m3 : m₀ (Str.ofString "deep") = some dv)
    (hrl : (rl, listOf ([] : List Value).toArray k0) ∈ news) (hC : C ∈ news) (hT : ∀ p ∈ T0, p ∈ news) (hoff : OwnOff T0 [rl, C.1]) (h0 : NodeIn T0 (.ref a0) (fam []))
    (turn : ∀ (i : Nat) (t : Tok) (S : List Value) (kk' : Nat) (a : Addr) (Ta Tb : List (Addr × Obj)) (h : Heap) (tk : Nat) (u : Str → Option Value), i < n → S.length = i → (∀ p ∈ Ta, p ∈ Tb) → OwnOff Tb [rl, C.1] → NodeIn Ta (.ref a) (fam S) →
      Fr h₀ env.locals h (fun z => if z = Str.ofString "at" then some (.int (i : Int) t) else if z = Str.ofString "node" then some (.ref a) else if z = Str.ofString "refs" then some (.ref rl) else if z = Str.ofString "deep" then some dv else u z) →
      News h₀ env.locals h ((rl, listOf S.toArray kk') :: C :: Tb) →
      wpAny (model prog w) A (execs body env) (LawPost h₀ env.locals rl C dv fam S Ta Tb { s with heap := h, toks := tk }) E { s with heap := h, toks := tk })
    (done : ∀ (S : List Value) (kk' : Nat) (a : Addr) (Ta : List (Addr × Obj)) (h : Heap) (tk : Nat) (u : Str → Option Value), S.length = n → (∀ v ∈ S, ∃ q, v = .ref q) → OwnOff Ta [rl, C.1] → NodeIn Ta (.ref a) (fam S) →
      Fr h₀ env.locals h (fun z => if z = Str.ofString "node" then some (.ref a) else if z = Str.ofString "refs" then some (.ref rl) else if z = Str.ofString "deep" then some dv else u z) →
      News h₀ env.locals h ((rl, listOf S.toArray kk') :: C :: Ta) → Q .next { s with heap := h, toks := tk }) :
    wpAny (model prog w) A (pyIter (.ref r)) (fun it s₂ => LoopAtV prog w A h₀ env (Str.ofString "at") body Q E it s₂) E s := by
  refine rng_iter (nx0 := (rl, listOf ([] : List Value).toArray k0) :: C :: T0)
    (fun i m nx => ∃ (S : List Value) (kk' : Nat) (a : Addr) (Ta : List (Addr × Obj)), nx = (rl, listOf S.toArray kk') :: C :: Ta ∧ m (Str.ofString "node") = some (.ref a) ∧ m (Str.ofString "refs") = some (.ref rl) ∧ m (Str.ofString "deep") = some dv ∧ OwnOff Ta [rl, C.1] ∧ NodeIn Ta (.ref a) (fam S) ∧ S.length = i ∧ (∀ v ∈ S, ∃ q, v = .ref q))
    hh hr hsmall hsz F N (fun p hp => ?_) ⟨[], k0, a0, T0, rfl, m1, m2, m3, hoff, h0, rfl, fun _ h => (nomatch h)⟩ ?_ ?_
  · rcases List.mem_cons.mp hp with rfl | hp
    · exact hrl
    · rcases List.mem_cons.mp hp with rfl | hp
      · exact hC
      · exact hT p hp
  · rintro i k t m₁ nx h tk own hi hk hown ⟨S, kk', a, Ta, rfl, e1, e2, e3, ho, hN, hlen, hS⟩ F₁ N₁
    have hki : k = (i : Int) := by rw [hk]; omega
    rw [three_eq e1 e2 e3, hki] at F₁
    have hTb : OwnOff (Ta ++ own) [rl, C.1] := by
      intro p hp b hb
      rcases List.mem_append.mp hp with hp | hp
      · exact ho p hp b hb
      · refine hown p hp b ?_
        simp only [List.mem_cons, List.not_mem_nil, or_false] at hb
        rcases hb with rfl | rfl
        · exact .head _
        · exact .tail _ (.head _)
    refine wpAny_mono (turn i t S kk' a Ta (Ta ++ own) h tk m₁ hi hlen (fun p hp => List.mem_append_left _ hp) hTb hN F₁ N₁) (fun f s₂ p => ?_) fun _ _ e => e
    obtain ⟨rfl, r, a', X, kk2, h', tk', m', rfl, F', e1', e2', e3', N', hX, hN'⟩ := p
    refine InvEndG.intro (nx := (rl, listOf (S ++ [Value.ref r]).toArray kk2) :: C :: (X ++ Ta)) F' N' ⟨S ++ [Value.ref r], kk2, a', X ++ Ta, rfl, e1', e2', e3', ?_, hN', by simp [hlen], ?_⟩ ?_ ?_ ?_
    · intro p hp b hb
      rcases List.mem_append.mp hp with hp | hp
      · simp only [List.mem_cons, List.not_mem_nil, or_false] at hb
        rcases hb with rfl | rfl
        · exact (hX p hp).1
        · exact (hX p hp).2.1
      · exact ho p hp b hb
    · intro v hv
      rcases List.mem_append.mp hv with hv | hv
      · exact hS v hv
      · exact ⟨r, List.mem_singleton.mp hv⟩
    · intro p hp b hb
      obtain ⟨q, hq, rfl⟩ := List.mem_map.mp hb
      simp only [List.mem_cons, List.mem_append] at hq
      rcases hq with rfl | rfl | hq | hq
      · exact hown p hp _ (.head _)
      · exact hown p hp _ (.tail _ (.head _))
      · exact Ne.symm ((hX q hq).2.2 p (List.mem_append_right _ hp))
      · exact hown p hp _ (.tail _ (.tail _ (List.mem_map_of_mem hq)))
    · intro p hp
      simp only [List.mem_cons, List.mem_append] at hp ⊢
      rcases hp with h | h | h | h
      · exact .inl h
      · exact .inr (.inl h)
      · exact .inr (.inr (.inl h))
      · exact .inr (.inr (.inr (.inl h)))
    · intro p hp
      simp only [List.mem_cons, List.mem_append]
      exact .inr (.inr (.inr (.inr hp)))
  · rintro m₁ nx h tk ⟨S, kk', a, Ta, rfl, e1, e2, e3, ho, hN, hlen, hS⟩ F₁ N₁
    rw [three_eq e1 e2 e3] at F₁
    exact done S kk' a Ta h tk m₁ hlen hS ho hN F₁ N₁
end
section
variable {prog : Program} {w : World} {A : Around} {E : Value → Shared → Prop} {s : Shared} {env : Env} {h₀ : Heap} {body : List Stmt} {Q : Flow → Shared → Prop}
theorem law_iterC {r : Addr} {b₀ : Int} {t₀ u₀ v₀ : Tok} {n : Nat} {m₀ : Str → Option Value} {news : List (Addr × Obj)} {rl a0 ca : Addr} {oc : Obj} {cv : Option Value} {k0 : Nat} {dv : Value} {t1 t2 : Tok} (fam : List Value → Nd)
    (_hcell : oc.data = .cell cv)
    (hh : A.handled = none) (hr : IsRange s.heap r 0 b₀ 1 t₀ u₀ v₀) (hb : b₀ = (n : Int)) (hn : n ≤ 700) (F : Fr h₀ env.locals s.heap m₀) (N : News h₀ env.locals s.heap news)
    (m1 : m₀ (Str.ofString "node") = some (.ref a0)) (m2 : m₀ (Str.ofString "refs") = some (.ref rl)) (m3 : m₀ (Str.ofString "deep") = some dv)
    (hrl : (rl, listOf ([] : List Value).toArray k0) ∈ news) (hC : (ca, oc) ∈ news) (hT : (a0, tupO [sv "len" t1, .int 1 t2]) ∈ news) (hoff : a0 ≠ rl ∧ a0 ≠ ca) (h0 : fam [] = .len1)
    (turn : ∀ (i : Nat) (t : Tok) (S : List Value) (kk' : Nat) (a : Addr) (Ta Tb : List (Addr × Obj)) (h : Heap) (tk : Nat) (u : Str → Option Value), i < n → S.length = i → (∀ p ∈ Ta, p ∈ Tb) → OwnOff Tb [rl, ca] → NodeIn Ta (.ref a) (fam S) →
      Fr h₀ env.locals h (fun z => if z = Str.ofString "at" then some (.int (i : Int) t) else if z = Str.ofString "node" then some (.ref a) else if z = Str.ofString "refs" then some (.ref rl) else if z = Str.ofString "deep" then some dv else u z) →
      News h₀ env.locals h ((rl, listOf S.toArray kk') :: (ca, oc) :: Tb) →
      wpAny (model prog w) A (execs body env) (LawPost h₀ env.locals rl (ca, oc) dv fam S Ta Tb { s with heap := h, toks := tk }) E { s with heap := h, toks := tk })
    (done : ∀ (S : List Value) (kk' : Nat) (a : Addr) (Ta : List (Addr × Obj)) (h : Heap) (tk : Nat) (u : Str → Option Value), S.length = n → (∀ v ∈ S, ∃ q, v = .ref q) → OwnOff Ta [rl, ca] → NodeIn Ta (.ref a) (fam S) →
      Fr h₀ env.locals h (fun z => if z = Str.ofString "node" then some (.ref a) else if z = Str.ofString "refs" then some (.ref rl) else if z = Str.ofString "deep" then some dv else u z) →
      News h₀ env.locals h ((rl, listOf S.toArray kk') :: (ca, oc) :: Ta) → Q .next { s with heap := h, toks := tk }) :
    wpAny (model prog w) A (pyIter (.ref r)) (fun it s₂ => LoopAtV prog w A h₀ env (Str.ofString "at") body Q E it s₂) E s := by
  subst hb
  refine law_iter (T0 := [(a0, tupO [sv "len" t1, .int 1 t2])]) (C := (ca, oc)) fam hh hr ?_ ?_ F N m1 m2 m3 hrl hC (fun p hp => (List.mem_singleton.mp hp) ▸ hT) ?_ (h0 ▸ .len1 (.head _)) turn done
  · exact small_one (by omega) (by omega) (by omega) (by omega)
  · rw [rangeSize_nat]; omega
  · intro p hp b hb
    rw [List.mem_singleton.mp hp]
    simp only [List.mem_cons, List.not_mem_nil, or_false] at hb
    rcases hb with rfl | rfl
    · exact hoff.1
    · exact hoff.2
end
/-- all of these addresses are at or above d -/
def AllGe (d : Nat) : List (Addr × Obj) → Prop
  | [] => True
  | p :: r => @LE.le Nat _ d p.1 ∧ AllGe d r
theorem allGe_mem {d : Nat} {X : List (Addr × Obj)} (h : AllGe d X) : ∀ p ∈ X, @LE.le Nat _ d p.1 := by
  induction X with
  | nil => exact fun _ h => nomatch h
  | cons a X ih =>
    intro p hp
    cases hp with
    | head => exact h.1
    | tail _ hp => exact ih h.2 p hp
theorem law_end {h₀ h' : Heap} {L rl a' r d : Addr} {C : Addr × Obj} {dv : Value} {fam : List Value → Nd} {S : List Value} {Ta Tb : List (Addr × Obj)} {s : Shared} {tk' kk : Nat} {m' : Str → Option Value} (X : List (Addr × Obj)) (l1 : rl < d ∧ C.1 < d ∧ AllLt d Tb) (hX : AllGe d X)
    (F : Fr h₀ L h' m') (e1 : m' (Str.ofString "node") = some (.ref a')) (e2 : m' (Str.ofString "refs") = some (.ref rl)) (e3 : m' (Str.ofString "deep") = some dv)
    (N : News h₀ L h' (X ++ (rl, listOf (S ++ [Value.ref r]).toArray kk) :: C :: Tb)) (hN : NodeIn (X ++ Ta) (.ref a') (fam (S ++ [Value.ref r]))) : LawPost h₀ L rl C dv fam S Ta Tb s .next { s with heap := h', toks := tk' } := by
  refine ⟨rfl, r, a', X, kk, h', tk', m', rfl, F, e1, e2, e3, fun p hp => N p ?_, fun p hp => ?_, hN⟩
  · simp only [List.mem_append, List.mem_cons] at hp ⊢
    rcases hp with h | h | h | h
    · exact .inr (.inl h)
    · exact .inr (.inr (.inl h))
    · exact .inl h
    · exact .inr (.inr (.inr h))
  · have h1 : d ≤ p.1 := allGe_mem hX p hp
    refine ⟨fun e => ?_, fun e => ?_, fun q hq e => ?_⟩
    · exact absurd (e ▸ h1) (Nat.not_le.mpr l1.1)
    · exact absurd (e ▸ h1) (Nat.not_le.mpr l1.2.1)
    · exact absurd (e ▸ h1) (Nat.not_le.mpr (tb_ltOf l1.2.2 q hq))
theorem choN_plain : ∀ n, (choN n).plain = true
  | 0 => rfl
  | _ + 1 => rfl
theorem node_rep {X Ta : List (Addr × Obj)} {a b : Addr} {t : Tok} {S : List Value} {r : Value} (h : (a, tupO [sv "arbno" t, .ref b]) ∈ X) (hN : NodeIn Ta (.ref b) (repN S.length)) : NodeIn (X ++ Ta) (.ref a) (repN (S ++ [r]).length) := by
  rw [List.length_append]
  exact .arbno (List.mem_append_left _ h) (hN.mono fun p hp => List.mem_append_right _ hp)
theorem node_cho {X Ta : List (Addr × Obj)} {a b c q q2 : Addr} {t1 t2 t3 t4 t5 t6 : Tok} {S : List Value} {r : Value} (h1 : (a, tupO [sv "alt" t1, .ref c, .ref q]) ∈ X) (h2 : (c, tupO [sv "cat" t2, .ref b, .ref q2]) ∈ X) (h3 : (q, tupO [sv "pos" t3, .int 3 t4]) ∈ X) (h4 : (q2, tupO [sv "pos" t5, .int 2 t6]) ∈ X)
    (hN : NodeIn Ta (.ref b) (choN S.length)) : NodeIn (X ++ Ta) (.ref a) (choN (S ++ [r]).length) := by
  rw [List.length_append]
  exact .altcat (List.mem_append_left _ h1) (List.mem_append_left _ h2) (List.mem_append_left _ h3) (List.mem_append_left _ h4) (choN_plain _) (hN.mono fun p hp => List.mem_append_right _ hp)
theorem node_lat {X Ta : List (Addr × Obj)} {a b : Addr} {t : Tok} {S : List Value} {r : Value} (h : (a, tupO [sv "later" t, .ref b, r]) ∈ X) (hN : NodeIn Ta (.ref b) (latN .len1 S)) : NodeIn (X ++ Ta) (.ref a) (latN .len1 (S ++ [r])) := by
  unfold latN
  rw [List.foldl_append]
  exact .later (List.mem_append_left _ h) (hN.mono fun p hp => List.mem_append_right _ hp)
theorem node_now {X Ta : List (Addr × Obj)} {a b : Addr} {t : Tok} {S : List Value} {r : Value} (h : (a, tupO [sv "now" t, .ref b, r]) ∈ X) (hN : NodeIn Ta (.ref b) (nowN .len1 S)) : NodeIn (X ++ Ta) (.ref a) (nowN .len1 (S ++ [r])) := by
  unfold nowN
  rw [List.foldl_append]
  exact .now (List.mem_append_left _ h) (hN.mono fun p hp => List.mem_append_right _ hp)
theorem get_last {S : List Value} {r : Value} {i : Nat} (h : S.length = i) : (S ++ [r])[(i : Int).toNat]? = some r := by
  subst h
  simp
section
open PySem.SeqAt
variable {A : Around} {s : Shared} {h₀ : Heap} {L : Addr}
theorem tup_at {T : List (Addr × Obj)} {a : Addr} {l : List Value} (N : News h₀ L s.heap T) (h : (a, tupO l) ∈ T) : s.heap.IsTuple a l.toArray := ⟨_, (N _ h).1, rfl, _, rfl⟩
theorem tups_eq {T T' : List (Addr × Obj)} {a b : Addr} {l m : List Value} (N : News h₀ L s.heap T) (N' : News h₀ L s.heap T') (h : (a, tupO l) ∈ T) (h' : (b, tupO m) ∈ T') (hlen : l.length = m.length) (hu : A.units < cLine)
    (he : ∀ j (h1 : j < l.length) (h2 : j < m.length), EqAt A.in1 s l[j] m[j] true) : EqAt A s (.ref a) (.ref b) true := by
  by_cases hab : a = b
  · subst hab; exact EqAt.same _
  · have e := EqAt.of_refs hab (RcAt.tuples (e := fun _ => true) (tup_at N h) (tup_at N' h') hu (fun j j1 j2 => by simpa using he j (by simpa using j1) (by simpa using j2)))
    have e2 : ((List.range (min l.toArray.size m.toArray.size)).all (fun _ => true) && l.toArray.size == m.toArray.size) = true := by simp [hlen]
    rw [e2] at e
    exact e
theorem sv_eq (x : String) (t u : Tok) : EqAt A s (sv x t) (sv x u) true := by
  have := EqAt.str_str (A := A) (s := s) (Str.ofString x) t (Str.ofString x) u
  simpa using this
theorem int_eq (i : Int) (t u : Tok) : EqAt A s (.int i t) (.int i u) true := by
  have := EqAt.int_int (A := A) (s := s) i t i u
  simpa using this
theorem nil_eq {l m : List Value} (hl : l = []) : ∀ j (h1 : j < l.length) (h2 : j < m.length), EqAt A s l[j] m[j] true := fun j h1 _ => by subst hl; exact absurd h1 (Nat.not_lt_zero _)
theorem cons_eq {x y : Value} {l m : List Value} (hx : EqAt A s x y true) (h : ∀ j (h1 : j < l.length) (h2 : j < m.length), EqAt A s l[j] m[j] true) : ∀ j (h1 : j < (x :: l).length) (h2 : j < (y :: m).length), EqAt A s (x :: l)[j] (y :: m)[j] true := fun j h1 h2 => by
  cases j with
  | zero => exact hx
  | succ j => exact h j (Nat.lt_of_succ_lt_succ h1) (Nat.lt_of_succ_lt_succ h2)
theorem ord_eq {T T' : List (Addr × Obj)} {v w : Value} {o : Ord} (N : News h₀ L s.heap T) (N' : News h₀ L s.heap T') (h : OrdIn T v o) (h' : OrdIn T' w o) (hu : A.units < cLine) : EqAt A s v w true := by
  cases h with
  | one h => cases h' with | one h' => exact tups_eq N N' h h' rfl hu (cons_eq (sv_eq _ _ _) (cons_eq (sv_eq _ _ _) (cons_eq (int_eq _ _ _) (nil_eq rfl))))
  | split h => cases h' with | split h' => exact tups_eq N N' h h' rfl hu (cons_eq (sv_eq _ _ _) (cons_eq (int_eq _ _ _) (nil_eq rfl)))
  | jump h => cases h' with | jump h' => exact tups_eq N N' h h' rfl hu (cons_eq (sv_eq _ _ _) (cons_eq (int_eq _ _ _) (nil_eq rfl)))
  | mark h => cases h' with | mark h' => exact tups_eq N N' h h' rfl hu (cons_eq (sv_eq _ _ _) (nil_eq rfl))
  | gain h => cases h' with | gain h' => exact tups_eq N N' h h' rfl hu (cons_eq (sv_eq _ _ _) (nil_eq rfl))
  | done h => cases h' with | done h' => exact tups_eq N N' h h' rfl hu (cons_eq (sv_eq _ _ _) (nil_eq rfl))
  | name h =>
    cases h' with | name h' => exact tups_eq N N' h h' rfl hu (cons_eq (sv_eq _ _ _) (cons_eq (EqAt.same _) (nil_eq rfl)))
  | set h =>
    cases h' with | set h' => exact tups_eq N N' h h' rfl hu (cons_eq (sv_eq _ _ _) (cons_eq (EqAt.same _) (nil_eq rfl)))
theorem ords_all {T T' : List (Addr × Obj)} {vs : List Value} {os : List Ord} (N : News h₀ L s.heap T) (N' : News h₀ L s.heap T') (h : OrdsIn T vs os) : ∀ {ws : List Value}, OrdsIn T' ws os → A.units < cLine → ∀ j (h1 : j < vs.length) (h2 : j < ws.length), EqAt A s vs[j] ws[j] true := by
  induction h with
  | nil => intro ws h' _; exact nil_eq rfl
  | cons h _ ih =>
    intro ws h' hu
    cases h' with
    | cons k k' => exact cons_eq (ord_eq N N' h k hu) (ih k' hu)
/-- two lists of one spec are equal -/
theorem eq_ords {prog : Program} {w : World} {E Q : Value → Shared → Prop} {T : List (Addr × Obj)} {a b : Addr} {n1 n2 : Nat} {vs ws : List Value} {os : List Ord} (N : News h₀ L s.heap T) (ha : (a, listOf vs.toArray n1) ∈ T) (hb : (b, listOf ws.toArray n2) ∈ T)
    (h1 : OrdsIn T vs os) (h2 : OrdsIn T ws os) (hu : A.units + 1 < cLine) (h : Q (.bool true) s) : wpAny (model prog w) A (compareOp .Eq (.ref a) (.ref b)) Q E s := by
  have hA : s.heap.IsList a vs.toArray := ⟨_, (N _ ha).1, rfl, _, rfl⟩
  have hB : s.heap.IsList b ws.toArray := ⟨_, (N _ hb).1, rfl, _, rfl⟩
  have r := RcAt.lists (A := A) (e := fun _ => true) hA hB (by simp [h1.length, h2.length]) (by omega) (fun j j1 j2 => by simpa using ords_all N N h1 h2 (by simpa using hu) j (by simpa using j1) (by simpa using j2))
  refine r prog w E Q ?_
  have e : (List.range vs.toArray.size).all (fun _ => true) = true := by simp
  rw [e]; exact h
end
section
variable {prog : Program} {w : World} {A : Around} {E : Value → Shared → Prop} {s : Shared} {h₀ : Heap} {L a b : Addr} {m : Str → Option Value} {news : List (Addr × Obj)} {n1 n2 : Nat}
theorem m_add {p q : List Value} {Q : Value → Shared → Prop} (F : Fr h₀ L s.heap m) (N : News h₀ L s.heap news) (ha : (a, listOf p.toArray n1) ∈ news) (hb : (b, listOf q.toArray n2) ∈ news) (hz : p.length ≤ 100000) (hz2 : q.length ≤ 100000)
    (h : ∀ D h', Fr h₀ L h' m → News h₀ L h' ((D, listOf (p ++ q).toArray 0) :: news) → (∀ x ∈ news, x.1 < D) → Q (.ref D) { s with heap := h' }) : wpAny (model prog w) A (binaryOp .Add (.ref a) (.ref b)) Q E s :=
  kmk_add_lit (its := p.toArray) (its2 := q.toArray) F N ⟨_, (N _ ha).1, rfl, _, rfl⟩ ⟨_, (N _ hb).1, rfl, _, rfl⟩ rfl h (by simp [sizeLine_eq]; omega)
theorem m_mul {v : Value} {x : Int} {n : Nat} {u : Tok} {Q : Value → Shared → Prop} (F : Fr h₀ L s.heap m) (N : News h₀ L s.heap news) (ha : (a, listOf [v].toArray n1) ∈ news) (hx : x = (n : Int)) (hn : n ≤ 1000)
    (h : ∀ D h', Fr h₀ L h' m → News h₀ L h' ((D, listOf (List.replicate n v).toArray 0) :: news) → (∀ x ∈ news, x.1 < D) → Q (.ref D) { s with heap := h' }) : wpAny (model prog w) A (binaryOp .Mult (.ref a) (.int x u)) Q E s := by
  subst hx
  refine mul_list F N (N _ ha).1 (by omega) (by omega) (by simp; omega) fun h' F' N' => ?_
  rw [listMul_foldl_if] at N'
  have e : (List.replicate ((n : Int).toNat) [v].toArray.toList).flatten = List.replicate n v := by
    rw [Int.toNat_natCast]
    clear N' F' h hn
    induction n with
    | zero => rfl
    | succ n ih => rw [List.replicate_succ, List.flatten_cons, ih, List.replicate_succ]; rfl
  rw [e] at N'
  exact h _ h' F' N' fun p hp => Heap.lt_size (N p hp).1
end
section
variable {prog : Program} {w : World} {A : Around} {E : Value → Shared → Prop} {s : Shared} {env : Env} {h₀ : Heap} {body : List Stmt} {Q : Flow → Shared → Prop}
/-- what a turn of a loop that grows a list leaves -/
def GrowPost (h₀ : Heap) (L ol : Addr) (dv : Value) (R : Nat → List (Addr × Obj) → List Value → Prop) (i : Nat) (Ta Tb : List (Addr × Obj)) (s : Shared) (f : Flow) (s' : Shared) : Prop :=
  (f = .next) ∧ ∃ (S' : List Value) (X : List (Addr × Obj)) (kk : Nat) (h' : Heap) (tk' : Nat) (m' : Str → Option Value), s' = { s with heap := h', toks := tk' } ∧ Fr h₀ L h' m' ∧ m' (Str.ofString "orders") = some (.ref ol) ∧ m' (Str.ofString "deep") = some dv ∧
    News h₀ L h' ((ol, listOf S'.toArray kk) :: (X ++ Tb)) ∧ (∀ p ∈ X, p.1 ≠ ol ∧ ∀ q ∈ Tb, p.1 ≠ q.1) ∧ R (i + 1) (X ++ Ta) S'
theorem grow_end {h' : Heap} {L ol d : Addr} {dv : Value} {R : Nat → List (Addr × Obj) → List Value → Prop} {i : Nat} {S' : List Value} {Ta Tb : List (Addr × Obj)} {tk' kk : Nat} {m' : Str → Option Value} (X : List (Addr × Obj)) (l1 : ol < d ∧ AllLt d Tb) (hX : AllGe d X)
    (F : Fr h₀ L h' m') (e1 : m' (Str.ofString "orders") = some (.ref ol)) (e2 : m' (Str.ofString "deep") = some dv)
    (N : News h₀ L h' (X ++ (ol, listOf S'.toArray kk) :: Tb)) (hN : R (i + 1) (X ++ Ta) S') : GrowPost h₀ L ol dv R i Ta Tb s .next { s with heap := h', toks := tk' } := by
  refine ⟨rfl, S', X, kk, h', tk', m', rfl, F, e1, e2, fun p hp => N p ?_, fun p hp => ?_, hN⟩
  · simp only [List.mem_append, List.mem_cons] at hp ⊢
    rcases hp with h | h | h
    · exact .inr (.inl h)
    · exact .inl h
    · exact .inr (.inr h)
  · have h1 : d ≤ p.1 := allGe_mem hX p hp
    refine ⟨fun e => ?_, fun q hq e => ?_⟩
    · exact absurd (e ▸ h1) (Nat.not_le.mpr l1.1)
    · exact absurd (e ▸ h1) (Nat.not_le.mpr (tb_ltOf l1.2 q hq))
theorem grow_iter {r : Addr} {a₀ b₀ st : Int} {t₀ u₀ v₀ : Tok} {m₀ : Str → Option Value} {news T0 : List (Addr × Obj)} {ol : Addr} {S0 : List Value} {k0 : Nat} {dv : Value} (n : Nat) (R : Nat → List (Addr × Obj) → List Value → Prop)
    (hh : A.handled = none) (hr : IsRange s.heap r a₀ b₀ st t₀ u₀ v₀) (hsmall : Builtin.Range.small a₀ b₀ st = true) (hsz : Builtin.Range.rangeSize a₀ b₀ st = (n : Int)) (F : Fr h₀ env.locals s.heap m₀) (N : News h₀ env.locals s.heap news)
    (m1 : m₀ (Str.ofString "orders") = some (.ref ol)) (m2 : m₀ (Str.ofString "deep") = some dv)
    (hol : (ol, listOf S0.toArray k0) ∈ news) (hT : ∀ p ∈ T0, p ∈ news) (hoff : OwnOff T0 [ol]) (h0 : R 0 T0 S0)
    (turn : ∀ (i : Nat) (k : Int) (t : Tok) (S : List Value) (kk' : Nat) (Ta Tb : List (Addr × Obj)) (h : Heap) (tk : Nat) (u : Str → Option Value), i < n → k = a₀ + (i : Int) * st → (∀ p ∈ Ta, p ∈ Tb) → OwnOff Tb [ol] → R i Ta S →
      Fr h₀ env.locals h (fun z => if z = Str.ofString "at" then some (.int k t) else if z = Str.ofString "orders" then some (.ref ol) else if z = Str.ofString "deep" then some dv else u z) →
      News h₀ env.locals h ((ol, listOf S.toArray kk') :: Tb) →
      wpAny (model prog w) A (execs body env) (GrowPost h₀ env.locals ol dv R i Ta Tb { s with heap := h, toks := tk }) E { s with heap := h, toks := tk })
    (done : ∀ (S : List Value) (kk' : Nat) (Ta : List (Addr × Obj)) (h : Heap) (tk : Nat) (u : Str → Option Value), OwnOff Ta [ol] → R n Ta S →
      Fr h₀ env.locals h (fun z => if z = Str.ofString "orders" then some (.ref ol) else if z = Str.ofString "deep" then some dv else u z) →
      News h₀ env.locals h ((ol, listOf S.toArray kk') :: Ta) → Q .next { s with heap := h, toks := tk }) :
    wpAny (model prog w) A (pyIter (.ref r)) (fun it s₂ => LoopAtV prog w A h₀ env (Str.ofString "at") body Q E it s₂) E s := by
  refine rng_iter (nx0 := (ol, listOf S0.toArray k0) :: T0)
    (fun i m nx => ∃ (S : List Value) (kk' : Nat) (Ta : List (Addr × Obj)), nx = (ol, listOf S.toArray kk') :: Ta ∧ m (Str.ofString "orders") = some (.ref ol) ∧ m (Str.ofString "deep") = some dv ∧ OwnOff Ta [ol] ∧ R i Ta S)
    hh hr hsmall hsz F N (fun p hp => ?_) ⟨S0, k0, T0, rfl, m1, m2, hoff, h0⟩ ?_ ?_
  · rcases List.mem_cons.mp hp with rfl | hp
    · exact hol
    · exact hT p hp
  · rintro i k t m₁ nx h tk own hi hk hown ⟨S, kk', Ta, rfl, e1, e2, ho, hR⟩ F₁ N₁
    rw [two_eq e1 e2] at F₁
    have hTb : OwnOff (Ta ++ own) [ol] := by
      intro p hp b hb
      rcases List.mem_append.mp hp with hp | hp
      · exact ho p hp b hb
      · refine hown p hp b ?_
        rw [List.mem_singleton.mp hb]
        exact .head _
    refine wpAny_mono (turn i k t S kk' Ta (Ta ++ own) h tk m₁ hi hk (fun p hp => List.mem_append_left _ hp) hTb hR F₁ N₁) (fun f s₂ p => ?_) fun _ _ e => e
    obtain ⟨rfl, S', X, kk2, h', tk', m', rfl, F', e1', e2', N', hX, hR'⟩ := p
    refine InvEndG.intro (nx := (ol, listOf S'.toArray kk2) :: (X ++ Ta)) F' N' ⟨S', kk2, X ++ Ta, rfl, e1', e2', ?_, hR'⟩ ?_ ?_ ?_
    · intro p hp b hb
      rcases List.mem_append.mp hp with hp | hp
      · rw [List.mem_singleton.mp hb]
        exact (hX p hp).1
      · exact ho p hp b hb
    · intro p hp b hb
      obtain ⟨q, hq, rfl⟩ := List.mem_map.mp hb
      simp only [List.mem_cons, List.mem_append] at hq
      rcases hq with rfl | hq | hq
      · exact hown p hp _ (.head _)
      · exact Ne.symm ((hX q hq).2 p (List.mem_append_right _ hp))
      · exact hown p hp _ (.tail _ (List.mem_map_of_mem hq))
    · intro p hp
      simp only [List.mem_cons, List.mem_append] at hp ⊢
      rcases hp with h | h | h
      · exact .inl h
      · exact .inr (.inl h)
      · exact .inr (.inr (.inl h))
    · intro p hp
      simp only [List.mem_cons, List.mem_append]
      exact .inr (.inr (.inr hp))
  · rintro m₁ nx h tk ⟨S, kk', Ta, rfl, e1, e2, ho, hR⟩ F₁ N₁
    rw [two_eq e1 e2] at F₁
    exact done S kk' Ta h tk m₁ ho hR F₁ N₁
theorem grow_iter1 {r : Addr} {a₀ b₀ st : Int} {t₀ u₀ v₀ : Tok} {m₀ : Str → Option Value} {news T1 : List (Addr × Obj)} {ol D : Addr} {d1 d2 d3 : Tok} {S0 : List Value} {k0 : Nat} {dv : Value} (n : Nat) (R : Nat → List (Addr × Obj) → List Value → Prop)
    (hh : A.handled = none) (hr : IsRange s.heap r a₀ b₀ st t₀ u₀ v₀) (hsmall : Builtin.Range.small a₀ b₀ st = true) (hsz : Builtin.Range.rangeSize a₀ b₀ st = (n : Int)) (F : Fr h₀ env.locals s.heap m₀) (N : News h₀ env.locals s.heap news)
    (m1 : m₀ (Str.ofString "orders") = some (.ref ol)) (m2 : m₀ (Str.ofString "deep") = some dv)
    (hol : (ol, listOf S0.toArray k0) ∈ news) (he : (D, tupO [sv "one" d1, sv "len" d2, .int 1 d3]) ∈ news) (hT : ∀ p ∈ T1, p ∈ news) (hoff1 : D ≠ ol) (hoff : OwnOff T1 [ol]) (h0 : ∀ T0, (∀ p ∈ T1, p ∈ T0) → OrdIn T0 (.ref D) (.one "len" 1) → R 0 T0 S0)
    (turn : ∀ (i : Nat) (k : Int) (t : Tok) (S : List Value) (kk' : Nat) (Ta Tb : List (Addr × Obj)) (h : Heap) (tk : Nat) (u : Str → Option Value), i < n → k = a₀ + (i : Int) * st → (∀ p ∈ Ta, p ∈ Tb) → OwnOff Tb [ol] → R i Ta S →
      Fr h₀ env.locals h (fun z => if z = Str.ofString "at" then some (.int k t) else if z = Str.ofString "orders" then some (.ref ol) else if z = Str.ofString "deep" then some dv else u z) →
      News h₀ env.locals h ((ol, listOf S.toArray kk') :: Tb) →
      wpAny (model prog w) A (execs body env) (GrowPost h₀ env.locals ol dv R i Ta Tb { s with heap := h, toks := tk }) E { s with heap := h, toks := tk })
    (done : ∀ (S : List Value) (kk' : Nat) (Ta : List (Addr × Obj)) (h : Heap) (tk : Nat) (u : Str → Option Value), OwnOff Ta [ol] → R n Ta S →
      Fr h₀ env.locals h (fun z => if z = Str.ofString "orders" then some (.ref ol) else if z = Str.ofString "deep" then some dv else u z) →
      News h₀ env.locals h ((ol, listOf S.toArray kk') :: Ta) → Q .next { s with heap := h, toks := tk }) :
    wpAny (model prog w) A (pyIter (.ref r)) (fun it s₂ => LoopAtV prog w A h₀ env (Str.ofString "at") body Q E it s₂) E s := by
  refine grow_iter (T0 := (D, tupO [sv "one" d1, sv "len" d2, .int 1 d3]) :: T1) n R hh hr hsmall hsz F N m1 m2 hol (fun p hp => ?_) (fun p hp b hb => ?_) (h0 _ (fun p hp => .tail _ hp) (.one (.head _))) turn done
  · rcases List.mem_cons.mp hp with rfl | h
    · exact he
    · exact hT p h
  · rcases List.mem_cons.mp hp with rfl | h
    · rw [List.mem_singleton.mp hb]; exact hoff1
    · exact hoff p h b hb
end
/-- an order, or a place that is not yet written -/
def OOrd (T : List (Addr × Obj)) (v : Value) : Option Ord → Prop
  | none => v = .none
  | some o => OrdIn T v o
theorem OOrd.mono {T T' : List (Addr × Obj)} (hs : ∀ p ∈ T, p ∈ T') {v : Value} {o : Option Ord} (h : OOrd T v o) : OOrd T' v o := by
  cases o with
  | none => exact h
  | some o => exact OrdIn.mono hs h
inductive OOrds (T : List (Addr × Obj)) : List Value → List (Option Ord) → Prop
  | nil : OOrds T [] []
  | cons {v : Value} {o : Option Ord} {vs : List Value} {os : List (Option Ord)} : OOrd T v o → OOrds T vs os → OOrds T (v :: vs) (o :: os)
theorem OOrds.mono {T T' : List (Addr × Obj)} (hs : ∀ p ∈ T, p ∈ T') {vs : List Value} {os : List (Option Ord)} (h : OOrds T vs os) : OOrds T' vs os := by
  induction h with
  | nil => exact .nil
  | cons h _ ih => exact .cons (h.mono hs) ih
theorem OOrds.append {T : List (Addr × Obj)} {vs ws : List Value} {os ps : List (Option Ord)} (h : OOrds T vs os) (k : OOrds T ws ps) : OOrds T (vs ++ ws) (os ++ ps) := by
  induction h with
  | nil => exact k
  | cons h _ ih => exact .cons h ih
theorem OOrds.length {T : List (Addr × Obj)} {vs : List Value} {os : List (Option Ord)} (h : OOrds T vs os) : vs.length = os.length := by
  induction h with
  | nil => rfl
  | cons _ _ ih => simp [ih]
theorem OOrds.set {T : List (Addr × Obj)} {vs : List Value} {os : List (Option Ord)} (h : OOrds T vs os) {v : Value} {o : Option Ord} (hv : OOrd T v o) : ∀ k : Nat, OOrds T (vs.set k v) (os.set k o) := by
  induction h with
  | nil => intro k; exact .nil
  | cons h ht ih =>
    intro k
    cases k with
    | zero => exact .cons hv ht
    | succ k => exact .cons h (ih k)
theorem OOrds.all {T : List (Addr × Obj)} : ∀ {os : List Ord} {vs : List Value}, OOrds T vs (os.map some) → OrdsIn T vs os
  | [], _, h => by cases h; exact .nil
  | _ :: _, _, h => by cases h with | cons h k => exact .cons h k.all
theorem OrdIn.split' {T : List (Addr × Obj)} {a : Addr} {t1 t2 : Tok} {k : Int} {i : Nat} (h : (a, tupO [sv "split" t1, .int k t2]) ∈ T) (e : k = (i : Int)) : OOrd T (.ref a) (some (.split i)) := by subst e; exact OrdIn.split h
theorem OrdIn.jump' {T : List (Addr × Obj)} {a : Addr} {t1 t2 : Tok} {k : Int} {i : Nat} (h : (a, tupO [sv "jump" t1, .int k t2]) ∈ T) (e : k = (i : Int)) : OOrd T (.ref a) (some (.jump i)) := by subst e; exact OrdIn.jump h
theorem set_block {α : Type} {f g : Nat → List α} {i : Nat} {x : α} (h3 : ∀ j, (f j).length = 3) (hne : ∀ j, j ≠ i → g j = f j) (hg : g i = (f i).set 1 x) : ∀ n, i < n → ((List.range n).flatMap f).set (3 * i + 1) x = (List.range n).flatMap g := by
  have hl : ∀ m, ((List.range m).flatMap f).length = 3 * m := by
    intro m
    induction m with
    | zero => rfl
    | succ m ih => rw [List.range_succ, List.flatMap_append, List.length_append, ih]; simp [h3]; omega
  have hs : ∀ m, m ≤ i → (List.range m).flatMap g = (List.range m).flatMap f := fun m hm => flat_congr fun j hj => hne j (by have := List.mem_range.mp hj; omega)
  intro n hn
  induction n with
  | zero => omega
  | succ n ih =>
    rw [List.range_succ, List.flatMap_append, List.flatMap_append]
    by_cases h : i < n
    · rw [List.set_append_left _ _ (by rw [hl]; omega), ih h]
      congr 1
      have : g n = f n := hne n (by omega)
      simp [this]
    · have e : i = n := by omega
      subst e
      rw [List.set_append_right _ _ (by rw [hl]; omega), hl, hs i (Nat.le_refl _)]
      congr 1
      have : 3 * i + 1 - 3 * i = 1 := by omega
      rw [this]
      simp [hg]
theorem rev_range : ∀ n : Nat, (List.range n).reverse = (List.range n).map (fun k => n - 1 - k)
  | 0 => rfl
  | n + 1 => by
    rw [List.range_succ, List.reverse_append, rev_range n]
    have : (List.range n ++ [n]).map (fun k => n + 1 - 1 - k) = (List.range (n + 1)).map (fun k => n - k) := by rw [List.range_succ]; simp
    rw [this, List.range_succ_eq_map, List.map_cons, List.map_map]
    simp only [List.reverse_cons, List.reverse_nil, List.nil_append, List.singleton_append, Nat.sub_zero]
    congr 1
    refine List.map_congr_left fun k hk => ?_
    simp only [Function.comp]
    omega
/-- the list of _law_repeats after t turns of its second loop -/
noncomputable def repA (n t : Nat) : List (Option Ord) := (List.range n).flatMap fun j => [some (.split (3 * j + 2)), if n - t ≤ j then some (.jump (3 * n + 1 + 2 * (n - j))) else none, some .mark]
noncomputable def repB (n t : Nat) : List (Option Ord) := (List.range t).flatMap fun k => [some .gain, some (.jump (3 * (n - 1 - k)))]
noncomputable def repStart (i : Nat) : List (Option Ord) := (List.range i).flatMap fun j => [some (.split (3 * j + 2)), none, some .mark]
theorem repA_zero (n : Nat) : repA n 0 = repStart n := flat_congr fun j hj => by
  have := List.mem_range.mp hj
  rw [if_neg (by omega)]
theorem repA_length (n t : Nat) : (repA n t).length = 3 * n := by
  unfold repA
  generalize hm : n = m
  rw [← hm] 
  clear hm
  have : ∀ m, ((List.range m).flatMap fun j => [some (Ord.split (3 * j + 2)), if n - t ≤ j then some (Ord.jump (3 * n + 1 + 2 * (n - j))) else none, some Ord.mark]).length = 3 * m := by
    intro m
    induction m with
    | zero => rfl
    | succ m ih => rw [List.range_succ, List.flatMap_append, List.length_append, ih]; simp; omega
  exact this n
theorem repB_length (n t : Nat) : (repB n t).length = 2 * t := by
  unfold repB
  induction t with
  | zero => rfl
  | succ t ih => rw [List.range_succ, List.flatMap_append, List.length_append, ih]; simp; omega
theorem repStart_length (n : Nat) : (repStart n).length = 3 * n := by rw [← repA_zero, repA_length]
theorem repStart_succ (i : Nat) : repStart (i + 1) = repStart i ++ [some (.split (3 * i + 2)), none, some .mark] := by
  unfold repStart; rw [List.range_succ, List.flatMap_append]; rfl
theorem repA_succ {n t : Nat} (h : t < n) : (repA n t).set (3 * (n - 1 - t) + 1) (some (.jump (3 * n + 1 + 2 * (t + 1)))) = repA n (t + 1) := by
  unfold repA
  refine set_block (fun _ => rfl) (fun j hj => ?_) ?_ n (by omega)
  · by_cases h1 : n - t ≤ j
    · rw [if_pos h1, if_pos (by omega)]
    · rw [if_neg h1, if_neg (by omega)]
  · rw [if_pos (by omega)]
    have : 2 * (n - (n - 1 - t)) = 2 * (t + 1) := by omega
    rw [this]; rfl
theorem repB_succ (n t : Nat) : repB n (t + 1) = repB n t ++ [some .gain, some (.jump (3 * (n - 1 - t)))] := by
  unfold repB; rw [List.range_succ, List.flatMap_append]; rfl
theorem rep_end (n : Nat) : repA n n ++ ([some (.one "len" 1)] ++ repB n n) = (code (repN n) 0).map some := by
  rw [repN_code, List.map_append, List.map_append, List.map_flatMap, List.map_flatMap, rev_range, List.flatMap_map]
  have e1 : repA n n = (List.range n).flatMap (fun a => List.map some [Ord.split (0 + 3 * a + 2), .jump (0 + 3 * n + 1 + 2 * (n - a)), .mark]) := flat_congr fun j hj => by
    rw [if_pos (by omega)]; simp
  have e2 : repB n n = (List.range n).flatMap (fun a => List.map some [Ord.gain, .jump (0 + 3 * (n - 1 - a))]) := flat_congr fun j hj => by simp
  rw [e1, e2]; rfl
/-- one turn of the second loop, as lists -/
theorem rep_turn {n t : Nat} (h : t < n) : (repA n t ++ ([some (Ord.one "len" 1)] ++ repB n t) ++ [some Ord.gain, some (Ord.jump (3 * (n - 1 - t)))]).set (3 * (n - 1 - t) + 1) (some (.jump (3 * n + 1 + 2 * (t + 1)))) = repA n (t + 1) ++ ([some (.one "len" 1)] ++ repB n (t + 1)) := by
  rw [List.append_assoc, List.set_append_left _ _ (by rw [repA_length]; omega), repA_succ h, repB_succ, List.append_assoc]
/-- the list of _law_choices -/
theorem cho_end (n : Nat) : (List.range n).map (fun j => some (Ord.split (4 * n - 3 * j))) ++ ([some (.one "len" 1)] ++ (List.range n).flatMap fun j => [some (.one "pos" 2), some (.jump (n + 4 + 3 * j)), some (.one "pos" 3)]) = (code (choN n) 0).map some := by
  rw [choN_code, List.map_append, List.map_append, List.map_flatMap, List.map_map]
  simp
section
variable {prog : Program} {w : World} {A : Around} {E : Value → Shared → Prop} {h₀ : Heap} {L C : Addr} {m m₂ : Str → Option Value} {s₁ s₂ s' : Shared} {news : List (Addr × Obj)}
theorem comp_fr {x : Str} {v : Value} (F : Fr h₀ L s₁.heap m) (hC : s₁.heap.objs.size ≤ C) (hn : s₂.heap.Ns C m₂) (hm : m₂ x = some v) (hk : ∀ b o, s₁.heap.get? b = some o → s₂.heap.get? b = some o) :
    Fr h₀ C s₂.heap (fun y => if y = x then some v else m₂ y) := by
  have e : (fun y => if y = x then some v else m₂ y) = m₂ := by
    funext y
    by_cases h : y = x
    · subst h; simp [hm]
    · simp [h]
  rw [e]
  obtain ⟨o, _, _, ho, _⟩ := F.ns
  exact ⟨hn, fun b o e => hk b o (F.keep b o e), Nat.le_trans F.above (Nat.le_trans (Nat.le_of_lt (Heap.lt_size ho)) hC)⟩
theorem comp_news (N : News h₀ L s₁.heap news) (hC : s₁.heap.objs.size ≤ C) (hk : ∀ b o, s₁.heap.get? b = some o → s₂.heap.get? b = some o) : News h₀ C s₂.heap news := fun p hp =>
  ⟨hk _ _ (N p hp).1, Nat.ne_of_lt (Nat.lt_of_lt_of_le (Heap.lt_size (N p hp).1) hC), (N p hp).2.2⟩
theorem newList_at {items : List Value} {Q : Value → Shared → Prop} (F : Fr h₀ C s'.heap m) (N : News h₀ C s'.heap news) (K : ∃ h tk, s' = { s₂ with heap := h, toks := tk } ∧ ∀ b o, s₂.heap.get? b = some o → h.get? b = some o) (hl : items.length ≤ 1000)
    (h : ∀ D h', Fr h₀ C h' m → News h₀ C h' ((D, listOf items.toArray 0) :: news) → (∀ b o, s₂.heap.get? b = some o → h'.get? b = some o) → Q (.ref D) { s' with heap := h' }) : wpAny (model prog w) A (newList items) Q E s' := by
  obtain ⟨g, tk, rfl, hk⟩ := K
  refine wpAny_newObj_type (h _ _ (F.push _) (News.push F N _) fun b o e => Heap.get?_push_of_some _ (hk b o e)) ?_
  show items.toArray.size ≤ sizeLine
  rw [List.size_toArray]
  simp only [sizeLine_eq]; omega
theorem item_made2 {M : Model} {A : Around} {E : Value → Shared → Prop} {items : List Value} {G : Value → Obj → Prop} {v : Value} {h' : Heap} {tk : Nat} (hk : ∀ b o, s₂.heap.get? b = some o → h'.get? b = some o) (hG : G v (tupO items)) (hl : items.length ≤ 1000) :
    wpAny M A (newTuple items) (fun y s₃ => (∃ T o, y = .ref T ∧ s₂.heap.get? T = none ∧ s₃.heap.get? T = some o ∧ G v o) ∧ Keeps s₂ s₃) E { s₂ with heap := h', toks := tk } := by
  refine wpAny_newTuple ⟨⟨_, _, rfl, ?_, Heap.get?_push_size _ rfl, hG⟩, ⟨_, _, rfl, fun _ _ e => Heap.get?_push_of_some _ (hk _ _ e)⟩⟩ (by simp only [sizeLine_eq]; omega)
  cases e : s₂.heap.get? h'.objs.size with
  | none => rfl
  | some o => have := hk _ _ e; rw [get_size] at this; cases this
end
theorem names_in {T : List (Addr × Obj)} {objs : List (Addr × Obj)} {mk : Value → Ord} {k : String} (hmk : ∀ (a : Addr) (t : Tok) (r : Value), (a, tupO [sv k t, r]) ∈ T → OrdIn T (.ref a) (mk r)) (hs : ∀ p ∈ objs, p ∈ T) : ∀ {S ys : List Value}, Paired (fun v y => ∃ D o, y = .ref D ∧ (D, o) ∈ objs ∧ ∃ t1, o = tupO [sv k t1, v]) S ys → OrdsIn T ys (S.map mk)
  | [], _, .nil => .nil
  | _ :: _, _, .cons h t => by
    obtain ⟨D, o, rfl, hm, t1, rfl⟩ := h
    exact .cons (hmk _ _ _ (hs _ hm)) (names_in hmk hs t)
theorem marks_in {T : List (Addr × Obj)} {a : Addr} {t : Tok} (h : (a, tupO [sv "mark" t]) ∈ T) : ∀ n : Nat, OrdsIn T (List.replicate n (.ref a)) (List.replicate n .mark)
  | 0 => .nil
  | n + 1 => .cons (.mark h) (marks_in h n)
theorem lat_spec {S : List Value} {n : Nat} (h : S.length = n) : code (latN .len1 S) 0 ++ [.done] = List.replicate n .mark ++ [.one "len" 1] ++ S.map .name ++ [.done] := by
  rw [latN_code, h]; simp [code]
theorem now_spec {S : List Value} {n : Nat} (h : S.length = n) : code (nowN .len1 S) 0 ++ [.done] = List.replicate n .mark ++ [.one "len" 1] ++ S.map .set ++ [.done] := by
  rw [nowN_code, h]; simp [code]
section
variable {prog : Program} {w : World} {A : Around} {E : Value → Shared → Prop} {env : Env} {s : Shared} {h₀ : Heap} {m : Str → Option Value}
/-- what «y = [.. for x in ..]» leaves -/
def CompLeftA (h₀ : Heap) (L : Addr) (m : Str → Option Value) (y : Str) (G : Value → Obj → Prop) (vs : List Value) (news : List (Addr × Obj)) (s₁ : Shared) (Q : Flow → Shared → Prop) : Prop :=
  ∀ D ys objs nn h' tk, Fr h₀ L h' (fun z => if z = y then some (.ref D) else m z) → News h₀ L h' ((D, listOf (List.toArray ys) nn) :: (objs ++ news)) → Paired (fun v y => ∃ T o, y = .ref T ∧ (T, o) ∈ objs ∧ G v o) vs ys →
    Q .next { s₁ with heap := h', toks := tk }
theorem Assign_ListComp_obj (_F : Fr h₀ env.locals s.heap m) {elt iter : PySem.Expr} {x y : Str} {px py : Pos} {scope : Scope} {cl : List (Str × Addr)} {pos spos : Pos} {Q : Flow → Shared → Prop} (G : Value → Obj → Prop)
    (hsw : swapsWith (.ListComp elt [⟨.Name x px, iter, [], 0⟩] scope pos) (some (.Name y py)) spos.line env = pure true)
    (hh : A.handled = none) (hclos : closureFor scope env = pure cl) (hcell : ∀ y ∈ scope.names, y.2 ≠ .cell) (hkind : scope.kind = .function)
    (hnames : ∀ y ∈ scope.names, y.2 = .local → scope.names.lookup y.1 = some .local) (hx : scope.names.lookup x = some .local)
    (hy : env.kindOf y = some .local) (hp : (env.scope.kind == .class || (env.scope.kind == .module && env.locals != env.globals)) = false)
    (h : wpAny (model prog w) A (eval iter env) (fun xv s₁ => ∃ (news : List (Addr × Obj)) (ax : Addr) (vs : List Value) (nn : Nat), xv = .ref ax ∧ (ax, listOf vs.toArray nn) ∈ news ∧ vs.length ≤ 100000 ∧ Fr h₀ env.locals s₁.heap m ∧ News h₀ env.locals s₁.heap news ∧
      CompElt prog w A (fun C => compEnvC scope cl C env) x elt G vs s₁ ∧ CompLeftA h₀ env.locals m y G vs news s₁ Q) E s)
    (hs : ∀ x, foldedSetIterable iter env x = pure x) :
    wpAny (model prog w) A (exec (.Assign [.Name y py] (.ListComp elt [⟨.Name x px, iter, [], 0⟩] scope pos) spos) env) Q E s := by
  rw [exec_Assign_Name_used _ _ _ _ hsw]
  refine wpAny_bind (wpAny_standAt (wpAny_bind ?_))
  show wpAny _ A (do let _ ← comprehension (.ListComp elt [⟨.Name x px, iter, [], 0⟩] scope pos) scope env _ (newList []) false (eval iter env) (some (assign (.Name y py) env))) _ _ s
  refine wpAny_bind (wpAny_mono (wpAny_comprehension_free (use := some (assign (.Name y py) env)) (Q := fun _ s' => Q .next s') rfl hs hclos hkind hnames
    (wpAny_mono h (fun xv s₁ h₁ => ?_) fun _ _ e => e)) (fun _ s' hq => wpAny_pure (wpAny_pure hq)) fun _ _ e => e)
  obtain ⟨news, ax, vs, nn, rfl, hm, hsz, F, N, helt, hQ⟩ := h₁
  have hol : s₁.heap.get? ax = some (listOf vs.toArray nn) := (N _ hm).1
  have hl : s₁.heap.IsList ax vs.toArray := ⟨_, hol, rfl, nn, rfl⟩
  have hlt : ax < s₁.heap.objs.size := Heap.lt_size hol
  refine wpAny_pyIter_list hl ?_
  have up : ∀ (h' : Heap), (∀ b o, b ∉ [s₁.heap.objs.size] → (s₁.heap.push { cls := .type "list_iterator", data := .fields #[.ref ax, .int 0 0] }).get? b = some o → h'.get? b = some o) → ∀ b o, s₁.heap.get? b = some o → h'.get? b = some o :=
    fun h' hk b o e => hk b o (fun hm => by rcases List.mem_cons.mp hm with rfl | hm; exact Nat.lt_irrefl _ (Heap.lt_size e); cases hm) (Heap.get?_push_of_some _ e)
  refine comp_block_obj (RR := fun acc C => compPost (model prog w) A E (some (assign (.Name y py) env)) (fun _ s' => Q .next s') acc C) (Walks.list hh s₁.heap.objs.size ax (Nat.ne_of_lt hlt) vs.toArray) (by simp only [List.size_toArray, sizeLine_eq]; omega) G
    (fun i h st b hb => by obtain ⟨o, e, _⟩ := st.1; rw [List.mem_singleton.mp hb]; exact ⟨o, e⟩) hcell hkind hx ⟨⟨_, Heap.get?_push_size _ rfl, rfl, rfl⟩, hl.push _⟩ ?_ ?_ ?_
  · intro b hb
    show b < (s₁.heap.push _).objs.size
    rw [Heap.size_push]
    rcases List.mem_cons.mp hb with rfl | hb
    · exact Nat.lt_succ_self _
    · rcases List.mem_cons.mp hb with rfl | hb
      · exact Nat.lt_succ_of_lt hlt
      · cases hb
  · intro C i v s₃ m₃ E' hC hP hn hm' hk
    exact helt C v s₃ m₃ E' (Nat.le_of_succ_le (by simpa [Heap.size_push] using hC)) (by simpa using Array.mem_of_getElem? hP) hn hm' (up _ hk)
  · intro D C h' tk m' ys vs' hD hC hDC hnC hpl hlen hP hF hk
    have e : vs' = vs := by simpa using list_of_places hlen hP
    subst e
    have hD' : s₁.heap.objs.size < D := Nat.lt_of_succ_le (by simpa [Heap.size_push] using hD)
    have keep1 := up h' hk
    have F1 := F.keeps keep1
    have hLs : ∃ o, s₁.heap.get? env.locals = some o := by obtain ⟨o, _, _, ho, _⟩ := F.ns; exact ⟨o, ho⟩
    have hCL : C ≠ env.locals := fun e => by
      obtain ⟨o, ho⟩ := hLs
      rw [e, Heap.get?_push_of_some _ ho] at hC; cases hC
    have new : ∀ T, (s₁.heap.push { cls := .type "list_iterator", data := .fields #[.ref ax, .int 0 0] }).get? T = none → s₁.heap.get? T = none := fun T hT => by
      cases e : s₁.heap.get? T with
      | none => rfl
      | some o => rw [Heap.get?_push_of_some _ e] at hT; cases hT
    have fresh : ∀ T, s₁.heap.get? T = none → T ≠ env.locals ∧ h₀.get? T = none := fun T hT => by
      refine ⟨fun e => ?_, ?_⟩
      · obtain ⟨o, ho⟩ := hLs
        rw [e, ho] at hT; cases hT
      · cases e : h₀.get? T with
        | none => rfl
        | some o => rw [F.keep _ _ e] at hT; cases hT
    have hDn : s₁.heap.get? D = none := by
      cases e : s₁.heap.get? D with
      | none => rfl
      | some o => exact absurd (Heap.lt_size e) (Nat.not_lt.mpr (Nat.le_of_lt hD'))
    have hC₀ : h₀.get? C = none := (fresh C (new C hC)).2
    have hL₀ : h₀.get? env.locals = none := Heap.get?_none_of_le F.above
    show wpAny _ A (assign (.Name y py) env (.ref D)) _ _ _
    refine wpAny_assign_Name (wpAny_storeName_local hy F1.ns (fun h₂ hn₂ hs₂ => ?_) hp)
    have F₂ : Fr h₀ env.locals h₂ (fun z => if z = y then some (.ref D) else m z) := ⟨hn₂, fun b o e => hs₂.extBut b o (fun q => by rw [q, hL₀] at e; cases e) (F1.keep b o e), F1.above⟩
    refine ⟨m', hnC.sameBut hs₂ (Ne.symm (Ne.symm hCL)), fun h'' hs'' => ?_⟩
    obtain ⟨kk, hplD⟩ := hpl
    have far : ∀ T o, T ≠ env.locals → T ≠ C → h'.get? T = some o → h''.get? T = some o := fun T o h1 h2 ho => hs''.extBut T o h2 (hs₂.extBut T o h1 ho)
    have hF' : Paired (ObjAt (s₁.heap.push { cls := .type "list_iterator", data := .fields #[.ref ax, .int 0 0] }) C D [s₁.heap.objs.size] G h'') vs' ys.toList := hF.mono fun _ _ hy => by
      obtain ⟨T, o, rfl, h1, hTC, hTw, hTD, ho, hG⟩ := hy
      exact ⟨T, o, rfl, h1, hTC, hTw, hTD, far T o (fresh T (new T h1)).1 hTC ho, hG⟩
    have objNew : ∀ q ∈ objsAt h'' ys.toList, s₁.heap.get? q.1 = none ∧ q.1 ≠ D := fun q hq => by
      obtain ⟨hy, _⟩ := of_objsAt hq
      obtain ⟨v, T, o, e, h1, _, _, hTD, _, _⟩ := paired_right hF' _ hy
      cases e
      exact ⟨new _ h1, hTD⟩
    refine hQ D ys.toList (objsAt h'' ys.toList) kk h'' (tk + 1) (F₂.change hs'' hCL hC₀) ?_ (paired_mem hF' fun v y hy hh => ?_)
    · intro p hp
      rcases List.mem_cons.mp hp with rfl | hp
      · refine ⟨?_, fresh D hDn⟩
        have := far D _ (fresh D hDn).1 hDC hplD
        rw [this]
      · rcases List.mem_append.mp hp with hp | hp
        · exact ⟨(of_objsAt hp).2, fresh _ (objNew p hp).1⟩
        · refine ⟨far _ _ (N p hp).2.1 (fun e => ?_) (keep1 _ _ (N p hp).1), (N p hp).2⟩
          have := new C hC
          rw [← e, (N p hp).1] at this; cases this
    · obtain ⟨T, o, rfl, _, _, _, _, ho, hG⟩ := hh
      exact ⟨T, o, rfl, mem_objsAt hy ho, hG⟩
end
/-- one end for all the ways behind a place -/
theorem cut_end {M : Model} {A : Around} {E : Value → Shared → Prop} {s : Shared} {h₀ : Heap} {m : Str → Option Value} {ss : List Stmt} {env : Env} {QQ : Flow → Shared → Prop} (_F : Fr h₀ env.locals s.heap m)
    (hend : ∀ (h' : Heap) (tk' : Nat) (m' : Str → Option Value), Fr h₀ env.locals h' m' → QQ (.ret (.bool true)) { s with heap := h', toks := tk' })
    (h : (∀ (h' : Heap) (tk' : Nat) (m' : Str → Option Value), Fr h₀ env.locals h' m' → QQ (.ret (.bool true)) { s with heap := h', toks := tk' }) → wpAny M A (execs ss env) QQ E s) : wpAny M A (execs ss env) QQ E s := h hend
/-- what the building loop's first statement leaves -/
def FirstPost (h₀ : Heap) (L rl : Addr) (C : Addr × Obj) (dv : Value) (i : Nat) (t : Tok) (S : List Value) (a : Addr) (Tb : List (Addr × Obj)) (s : Shared) (f : Flow) (s' : Shared) : Prop :=
  f = .next ∧ ∃ (x : Addr) (kk : Nat) (h' : Heap) (tk' : Nat) (u : Str → Option Value), s' = { s with heap := h', toks := tk' } ∧
    Fr h₀ L h' (fun z => if z = Str.ofString "at" then some (.int (i : Int) t) else if z = Str.ofString "node" then some (.ref a) else if z = Str.ofString "refs" then some (.ref rl) else if z = Str.ofString "deep" then some dv else u z) ∧
    News h₀ L h' ((rl, listOf (S ++ [Value.ref x]).toArray kk) :: C :: Tb)
def FirstAll (prog : Program) (w : World) (A : Around) (E : Value → Shared → Prop) (env : Env) (st : Stmt) (h₀ : Heap) (rl : Addr) (C : Addr × Obj) (dv : Value) (s : Shared) : Prop :=
  ∀ (i : Nat) (t : Tok) (S : List Value) (kk : Nat) (a : Addr) (Tb : List (Addr × Obj)) (h : Heap) (tk : Nat) (u : Str → Option Value), i < 700 → S.length = i → OwnOff Tb [rl, C.1] →
    Fr h₀ env.locals h (fun z => if z = Str.ofString "at" then some (.int (i : Int) t) else if z = Str.ofString "node" then some (.ref a) else if z = Str.ofString "refs" then some (.ref rl) else if z = Str.ofString "deep" then some dv else u z) →
    News h₀ env.locals h ((rl, listOf S.toArray kk) :: C :: Tb) →
    wpAny (model prog w) A (exec st env) (FirstPost h₀ env.locals rl C dv i t S a Tb { s with heap := h, toks := tk }) E { s with heap := h, toks := tk }
theorem cut_first {prog : Program} {w : World} {A : Around} {E : Value → Shared → Prop} {s : Shared} {env : Env} {h₀ : Heap} {st : Stmt} {rest : List Stmt} {Q : Flow → Shared → Prop} {x : Str} {r rl ca : Addr} {oc : Obj} {cv : Option Value} {dv : Value} {m₀ : Str → Option Value} {news : List (Addr × Obj)}
    (_F : Fr h₀ env.locals s.heap m₀) (_N : News h₀ env.locals s.heap news) (_hcell : oc.data = .cell cv) (_m2 : m₀ (Str.ofString "refs") = some (.ref rl)) (_m3 : m₀ (Str.ofString "deep") = some dv) (_hC : (ca, oc) ∈ news)
    (h1 : FirstAll prog w A E env st h₀ rl (ca, oc) dv s)
    (h : FirstAll prog w A E env st h₀ rl (ca, oc) dv s → wpAny (model prog w) A (pyIter (.ref r)) (fun it s₂ => LoopAtV prog w A h₀ env x (st :: rest) Q E it s₂) E s) :
    wpAny (model prog w) A (pyIter (.ref r)) (fun it s₂ => LoopAtV prog w A h₀ env x (st :: rest) Q E it s₂) E s := h h1
theorem use_first {prog : Program} {w : World} {A : Around} {E : Value → Shared → Prop} {s : Shared} {env : Env} {h₀ : Heap} {st : Stmt} {rest : List Stmt} {Q : Flow → Shared → Prop} {rl : Addr} {C : Addr × Obj} {dv : Value} (first : FirstAll prog w A E env st h₀ rl C dv s) {i : Nat} {t : Tok} {S : List Value} {kk : Nat} {a : Addr} {Tb : List (Addr × Obj)} {h : Heap} {tk : Nat} {u : Str → Option Value}
    (hi : i < 700) (hS : S.length = i) (ho : OwnOff Tb [rl, C.1])
    (F : Fr h₀ env.locals h (fun z => if z = Str.ofString "at" then some (.int (i : Int) t) else if z = Str.ofString "node" then some (.ref a) else if z = Str.ofString "refs" then some (.ref rl) else if z = Str.ofString "deep" then some dv else u z))
    (N : News h₀ env.locals h ((rl, listOf S.toArray kk) :: C :: Tb))
    (k : ∀ (x : Addr) (kk' : Nat) (h' : Heap) (tk' : Nat) (u' : Str → Option Value),
      Fr h₀ env.locals h' (fun z => if z = Str.ofString "at" then some (.int (i : Int) t) else if z = Str.ofString "node" then some (.ref a) else if z = Str.ofString "refs" then some (.ref rl) else if z = Str.ofString "deep" then some dv else u' z) →
      News h₀ env.locals h' ((rl, listOf (S ++ [Value.ref x]).toArray kk') :: C :: Tb) → wpAny (model prog w) A (execs rest env) Q E { s with heap := h', toks := tk' }) :
    wpAny (model prog w) A (execs (st :: rest) env) Q E { s with heap := h, toks := tk } := by
  refine wpAny_execs_cons (wpAny_mono (first i t S kk a Tb h tk u hi hS ho F N) (fun f s' p => ?_) fun _ _ e => e)
  obtain ⟨rfl, x, kk', h', tk', u', rfl, F', N'⟩ := p
  exact k x kk' h' tk' u' F' N'
theorem first_end {h₀ h' : Heap} {L rl x : Addr} {C : Addr × Obj} {dv : Value} {i : Nat} {t : Tok} {S : List Value} {a : Addr} {Tb l : List (Addr × Obj)} {s : Shared} {tk' kk : Nat} {m' : Str → Option Value} (F : Fr h₀ L h' m') (N : News h₀ L h' l)
    (e0 : m' (Str.ofString "at") = some (.int (i : Int) t)) (e1 : m' (Str.ofString "node") = some (.ref a)) (e2 : m' (Str.ofString "refs") = some (.ref rl)) (e3 : m' (Str.ofString "deep") = some dv)
    (hl : (rl, listOf (S ++ [Value.ref x]).toArray kk) ∈ l) (hC : C ∈ l) (hT : ∀ p ∈ Tb, p ∈ l) : FirstPost h₀ L rl C dv i t S a Tb s .next { s with heap := h', toks := tk' } := by
  refine ⟨rfl, x, kk, h', tk', m', rfl, ?_, fun p hp => N p ?_⟩
  · have e : m' = (fun z => if z = Str.ofString "at" then some (.int (i : Int) t) else if z = Str.ofString "node" then some (.ref a) else if z = Str.ofString "refs" then some (.ref rl) else if z = Str.ofString "deep" then some dv else m' z) := by
      funext z
      by_cases h : z = Str.ofString "at"
      · subst h; simp [e0]
      · simpa [h] using congrFun (three_eq e1 e2 e3) z
    rw [← e]; exact F
  · rcases List.mem_cons.mp hp with rfl | hp
    · exact hl
    · rcases List.mem_cons.mp hp with rfl | hp
      · exact hC
      · exact hT p hp
section
variable {prog : Program} {w : World} {A : Around} {E : Value → Shared → Prop} {s : Shared} {h₀ : Heap} {L D : Addr} {news : List (Addr × Obj)}
theorem m_inT {y1 y2 x : Str} {t1 t2 u : Tok} {b : Bool} {Q : Value → Shared → Prop} (N : News h₀ L s.heap news) (hm : (D, tupO [.str y1 t1, .str y2 t2]) ∈ news) (hb : [y1, y2].any (· == x) = b) (h : Q (.bool b) s) : wpAny (model prog w) A (compareOp .In (.str x u) (.ref D)) Q E s :=
  in_tuple_strs (items := #[.str y1 t1, .str y2 t2]) (ys := [y1, y2]) ⟨_, (N _ hm).1, rfl, _, rfl⟩ (StrsAre.cons _ _ (StrsAre.cons _ _ StrsAre.nil)) (by rw [hb]; exact h)
end
/-- an order's first word: it leads somewhere, or it does not -/
theorem ord_kind {T : List (Addr × Obj)} {v : Value} {o : Ord} (h : OrdIn T v o) : (∃ a ks t1 t2 g, v = .ref a ∧ (a, tupO [.str ks t1, .int (g : Nat) t2]) ∈ T ∧ [Str.ofString "jump", Str.ofString "split"].any (· == ks) = true ∧ (ks = Str.ofString "split" ∧ o = .split g ∨ ks = Str.ofString "jump" ∧ o = .jump g)) ∨
    ∃ a ks tb rest, v = .ref a ∧ (a, tupO (.str ks tb :: rest)) ∈ T ∧ [Str.ofString "jump", Str.ofString "split"].any (· == ks) = false := by
  cases h with
  | one h => exact .inr ⟨_, _, _, _, rfl, h, by decide⟩
  | split h => exact .inl ⟨_, _, _, _, _, rfl, h, by decide, .inl ⟨rfl, rfl⟩⟩
  | jump h => exact .inl ⟨_, _, _, _, _, rfl, h, by decide, .inr ⟨rfl, rfl⟩⟩
  | mark h => exact .inr ⟨_, _, _, _, rfl, h, by decide⟩
  | gain h => exact .inr ⟨_, _, _, _, rfl, h, by decide⟩
  | name h => exact .inr ⟨_, _, _, _, rfl, h, by decide⟩
  | set h => exact .inr ⟨_, _, _, _, rfl, h, by decide⟩
  | done h => exact .inr ⟨_, _, _, _, rfl, h, by decide⟩
/-- a call's surroundings -/
def CallOf (w : World) (dp un : Nat) (f : Addr) (args : List Value) (T : List (Addr × Obj)) (P : List (Addr × Obj) → Value → Prop) : Prop :=
  ∀ (mg mb : Str → Option Value) (mean : ExcName → Option Value) (gd : Option (List Code)) (cn : Str) (cs : Scope) (a : Addr) (ccd : Value) (cl : List (Str × Addr)) (outer : List Env) (A₀ : Around) (base h₀ : Heap) (L : Addr) (m : Str → Option Value) (s : Shared)
    (Q E : Value → Shared → Prop),
    Below A₀ base outer h₀ → Fr h₀ L s.heap m → (hd.heap_39 w.params).In h₀ → News h₀ L s.heap T → Top hd.view_39 (looseW hd.view_39 []) mean mg mb h₀ → cs.kind = .function →
    (∀ r T' h' tk', Fr h₀ L h' m → News h₀ L h' T' → P T' r → Q r { s with heap := h', toks := tk' }) →
    wpAny (model PySem.Challenge.rw_rh0224_01.row.toRowW.prog w) (ktrTop dp un gd cn cs L a ccd cl outer) (call (.ref f) args) Q E s
section
variable {prog : Program} {w : World} {A : Around} {E : Value → Shared → Prop} {s : Shared}
theorem m_eqS {x y : Str} {t u : Tok} {b : Bool} {Q : Value → Shared → Prop} (hb : (x == y) = b) (h : Q (.bool b) s) : wpAny (model prog w) A (compareOp .Eq (.str x t) (.str y u)) Q E s :=
  eq_str (by rw [hb]; exact h)
end
theorem news_lits0 {h₀ h : Heap} {L : Addr} {T : List (Addr × Obj)} (ps : List (Addr × Obj)) (N : News h₀ L h T) (hp : ∀ p ∈ ps, p ∈ T) : News h₀ L h (ps ++ T) := fun q hq => N q (by
  rcases List.mem_append.mp hq with h | h
  · exact hp q h
  · exact h)
/-- the popping statement of put's loop: what it leaves -/
def PopPost (h₀ : Heap) (L x wl : Addr) (wd told : Value) (S : List Value) (T : List (Addr × Obj)) (s : Shared) (f : Flow) (s' : Shared) : Prop :=
  f = .next ∧ ∃ (n : Nat) (h' : Heap) (tk' : Nat) (u : Str → Option Value), s' = { s with heap := h', toks := tk' } ∧
    Fr h₀ L h' (fun z => if z = Str.ofString "word" then some wd else if z = Str.ofString "told" then some told else if z = Str.ofString "self" then some (.ref x) else if z = Str.ofString "waiting" then some (.ref wl) else u z) ∧
    News h₀ L h' ((wl, listOf S.toArray n) :: T)
def PopAll (prog : Program) (w : World) (A : Around) (E : Value → Shared → Prop) (env : Env) (st : Stmt) (h₀ : Heap) (s : Shared) : Prop :=
  ∀ (x wl t : Addr) (wd told : Value) (S : List Value) (n : Nat) (T : List (Addr × Obj)) (h : Heap) (tk : Nat) (u : Str → Option Value), S.length ≤ 20000 → (t, tupO [wd, told]) ∈ T → OwnOff T [wl] →
    Fr h₀ env.locals h (fun z => if z = Str.ofString "self" then some (.ref x) else if z = Str.ofString "waiting" then some (.ref wl) else u z) → News h₀ env.locals h ((wl, listOf (S ++ [Value.ref t]).toArray n) :: T) →
    wpAny (model prog w) A (exec st env) (PopPost h₀ env.locals x wl wd told S T { s with heap := h, toks := tk }) E { s with heap := h, toks := tk }
theorem cut_pop {prog : Program} {w : World} {A : Around} {E : Value → Shared → Prop} {env : Env} {test : PySem.Expr} {st : Stmt} {rest orelse : List Stmt} {Q : Flow → Shared → Prop} {h₀ : Heap} {m : Str → Option Value} {s : Shared} (_F : Fr h₀ env.locals s.heap m)
    (h1 : PopAll prog w A E env st h₀ s) (h : PopAll prog w A E env st h₀ s → WhlRest prog w A E env test (st :: rest) orelse Q 0 s) : WhlRest prog w A E env test (st :: rest) orelse Q 0 s := h h1
theorem pop_end {h₀ h' : Heap} {L x wl : Addr} {wd told : Value} {S : List Value} {T l : List (Addr × Obj)} {s : Shared} {tk' n : Nat} {m' : Str → Option Value} (F : Fr h₀ L h' m') (N : News h₀ L h' l)
    (e0 : m' (Str.ofString "word") = some wd) (e1 : m' (Str.ofString "told") = some told) (e2 : m' (Str.ofString "self") = some (.ref x)) (e3 : m' (Str.ofString "waiting") = some (.ref wl))
    (hl : (wl, listOf S.toArray n) ∈ l) (hT : ∀ p ∈ T, p ∈ l) : PopPost h₀ L x wl wd told S T s .next { s with heap := h', toks := tk' } := by
  refine ⟨rfl, n, h', tk', m', rfl, ?_, fun p hp => N p ?_⟩
  · have e : m' = (fun z => if z = Str.ofString "word" then some wd else if z = Str.ofString "told" then some told else if z = Str.ofString "self" then some (.ref x) else if z = Str.ofString "waiting" then some (.ref wl) else m' z) := by
      funext z
      by_cases h : z = Str.ofString "word"
      · subst h; simp [e0]
      · simpa [h] using congrFun (three_eq e1 e2 e3) z
    rw [← e]; exact F
  · rcases List.mem_cons.mp hp with rfl | hp
    · exact hl
    · exact hT p hp
theorem use_pop {prog : Program} {w : World} {A : Around} {E : Value → Shared → Prop} {env : Env} {st : Stmt} {rest : List Stmt} {Q : Flow → Shared → Prop} {h₀ : Heap} {s : Shared} (pop : PopAll prog w A E env st h₀ s) {x wl ol dx t : Addr} {wd told : Value} {S : List Value} {n : Nat} {o2 o3 o4 : Obj} {T : List (Addr × Obj)} {h : Heap} {tk : Nat} {u : Str → Option Value}
    (hS : S.length ≤ 20000) (ht : (t, tupO [wd, told]) ∈ T) (hT : OwnOff T [wl, ol]) (w1 : wl ≠ ol) (w2 : wl ≠ x) (w3 : wl ≠ dx)
    (F : Fr h₀ env.locals h (fun z => if z = Str.ofString "self" then some (.ref x) else if z = Str.ofString "waiting" then some (.ref wl) else u z)) (N : News h₀ env.locals h ((wl, listOf (S ++ [Value.ref t]).toArray n) :: (ol, o2) :: (x, o3) :: (dx, o4) :: T))
    (k : ∀ (n' : Nat) (h' : Heap) (tk' : Nat) (u' : Str → Option Value),
      Fr h₀ env.locals h' (fun z => if z = Str.ofString "word" then some wd else if z = Str.ofString "told" then some told else if z = Str.ofString "self" then some (.ref x) else if z = Str.ofString "waiting" then some (.ref wl) else u' z) →
      News h₀ env.locals h' ((wl, listOf S.toArray n') :: (ol, o2) :: (x, o3) :: (dx, o4) :: T) → wpAny (model prog w) A (execs rest env) Q E { s with heap := h', toks := tk' }) :
    wpAny (model prog w) A (execs (st :: rest) env) Q E { s with heap := h, toks := tk } := by
  refine wpAny_execs_cons (wpAny_mono (pop x wl t wd told S n _ h tk u hS (.tail _ (.tail _ (.tail _ ht))) (fun p hp b hb => ?_) F N) (fun f s' p => ?_) fun _ _ e => e)
  · rw [List.mem_singleton.mp hb]
    simp only [List.mem_cons] at hp
    rcases hp with rfl | rfl | rfl | hp
    · exact Ne.symm w1
    · exact Ne.symm w2
    · exact Ne.symm w3
    · exact hT p hp _ (.head _)
  · obtain ⟨rfl, n', h', tk', u', rfl, F', N'⟩ := p
    exact k n' h' tk' u' F' N'
theorem news_lits1 {h₀ h : Heap} {L : Addr} {a : Addr × Obj} {T : List (Addr × Obj)} (ps : List (Addr × Obj)) (N : News h₀ L h (a :: T)) (hp : ∀ p ∈ ps, p ∈ T) : News h₀ L h (a :: (ps ++ T)) := fun q hq => N q (by
  simp only [List.mem_cons, List.mem_append] at hq ⊢
  rcases hq with h | h | h
  · exact .inl h
  · exact .inr (hp q h)
  · exact .inr h)
theorem sk {P Q X : Prop} (k : P → X) : Q ∧ P → X := fun h => k h.2
theorem cjL {a b D : Nat} {P : Prop} (h : b < D ∧ P) (k : b < D ∧ P → a < D) : a ≠ D := Nat.ne_of_lt (k h)
theorem cjG {a b D : Nat} {P : Prop} (h : b < D ∧ P) (k : b < D ∧ P → a < D) : D ≠ a := Nat.ne_of_gt (k h)
set_option compiler.extract_closed false
local macro_rules | `(tactic| walk_at "s") => `(tactic| ((repeat (first | exact And.left | exact id | refine sk ?_)); done))
local macro_rules | `(tactic| k_ne) => `(tactic| (refine neN ?_; (try dsimp only); first | assumption | exact Ne.symm (by assumption) | (refine cjL (by assumption) ?_; walk_at "s") | (refine cjG (by assumption) ?_; walk_at "s") | exact Nat.ne_of_lt (by assumption) | exact Nat.ne_of_gt (by assumption) | omega))
local macro_rules | `(tactic| tb_rel) => `(tactic| first | decide | exact Nat.le_trans (by assumption) (by decide) | ((try simp only [List.length_append, List.length_cons, List.length_nil, List.length_set, List.length_reverse, List.length_replicate, Int.natCast_add, Int.natCast_succ]); omega))
set_option maxRecDepth 100000 in
set_option maxHeartbeats 16000000 in
theorem crow (w : World) (dp un : Nat) (hdp : dp ≤ 400) (hun : un ≤ 200) (v c q : Addr) (kd k1 k2 : Str) (t t1 t2 t3 : Tok) (r1 r2 : List Value) (T : List (Addr × Obj)) (hv : (v, tupO [.str kd t1, .ref c, .ref q]) ∈ T) (hc : (c, tupO (.str k1 t2 :: r1)) ∈ T) (hq : (q, tupO (.str k2 t3 :: r2)) ∈ T) (e1 : (k1 == kd) = false) (e2 : (k2 == kd) = false) :
    CallOf w dp un 23 [.ref v, .str kd t] T (fun T' r => ∃ a n, r = .ref a ∧ T' = (a, listOf [Value.ref c, .ref q].toArray n) :: T ∧ ∀ p ∈ T, p.1 < a) := by
  have e0 : (kd == kd) = true := by simp
  w_top off
  unfold CallOf
  intro mg_ mb_ mean_ gd_ cn_ cs_ a_ ccd_ cl_ outer_ A_ base_ hb_ L_ m_ s_ Q_ E_ B_ F_ X_ N_ Tp_ hk_ hret
  replace N_ := news_lits0 [(v, tupO [.str kd t1, .ref c, .ref q]), (c, tupO (.str k1 t2 :: r1)), (q, tupO (.str k2 t3 :: r2))] N_ (List.forall_mem_cons.mpr ⟨hv, List.forall_mem_cons.mpr ⟨hc, List.forall_mem_cons.mpr ⟨hq, List.forall_mem_nil _⟩⟩⟩)
  simp only [List.cons_append, List.nil_append] at N_
  refine wpAny_call ?_
  k_dflt ktr_enter
  repeat' ((fail_if_success (with_reducible show Q_ _ _)); (first | (k_unfold; (try dsimp only)) | (k_end; wrow_close) | (with_reducible first | ((show wpAny _ _ (call (Value.builtin _) _) _ _ _); k_here; (first | ((show wpAny _ _ (call (Value.builtin "len") _) _ _ _); (first | k_dflt (refine' m_lenL (by k_asm) (by k_mem) (by first | (show _ = (0 : Int); rfl) | (show _ = (1 : Int); rfl) | (show _ = (2 : Int); rfl) | (show _ = (3 : Int); rfl) | (show _ = (4 : Int); rfl)) (by decide) ?_) | k_dflt (refine' m_len (by k_asm) (by k_mem) (by tb_rel) ?_))) | ((first | ((show wpAny _ _ (call (Value.builtin "list.append") _) _ _ _); k_dflt (refine' m_append (by k_asm) (by k_asm) (by first | assumption | k_upd) (by tb_rel) ?_)) | ((show wpAny _ _ (call (Value.builtin "list.extend") _) _ _ _); (first | k_dflt (refine' m_extend_nil (by k_asm) (by k_asm) (by k_mem) (by k_upd) (by tb_rel) ?_) | k_dflt (refine' m_extend (by k_asm) (by k_asm) (by k_mem) (by kl_some) (by k_upd) (by tb_rel) (by tb_rel) ?_))) | ((show wpAny _ _ (call (Value.builtin "list.pop") _) _ _ _); k_dflt (refine' m_pop (by k_asm) (by k_asm) (by k_upd) (by tb_rel) ?_))); intro hw Fw Nw; (try simp only [List.cons_append, List.nil_append] at Nw); (try k_sweep)))) | ((show wpAny _ _ (setItem (Value.ref _) (Value.int _ _) _) _ _ _); k_here; k_dflt (refine' m_set (by k_asm) (by k_asm) (by k_upd) (by tb_rel) (by tb_rel) (by tb_rel) ?_); intro hw Fw Nw; (try simp only [List.cons_append, List.nil_append] at Nw); (try k_sweep)) | ((show WhlIf _ _ _); (first | (refine WhlIf.yes (decide_eq_true (by tb_rel)) ?_) | (refine WhlIf.no (decide_eq_false (by tb_rel)) ?_))) | ((first | show wpAny _ _ (exec (Stmt.For (PySem.Expr.Name _ _) (PySem.Expr.Name _ _) _ _ _) _) _ _ _ | show wpAny _ _ (exec (Stmt.For (PySem.Expr.Name _ _) (PySem.Expr.Subscript _ _ _) _ _ _) _) _ _ _); k_here; (rename Fr _ _ _ _ => Fw'); (with_unfolding_all refine' For_invVF Fw' (by exact rfl) (by exact rfl) ?_); k_whole) | ((show wpAny _ _ (pyIter (Value.ref _)) _ _ _); k_here; (rename Fr _ _ _ _ => Fw'); (rename News _ _ _ _ => Nw'); (first | (with_unfolding_all refine iter_listUnr (vs := [_]) (by rfl) Fw' Nw' (by k_mem) (by rfl) (by rfl) ?_) | (with_unfolding_all refine iter_listUnr (vs := [_, _]) (by rfl) Fw' Nw' (by k_mem) (by rfl) (by rfl) ?_)); clear Fw'; intro iw lw; (try k_lt lw)) | ((show wpAny _ _ (subscriptTail _ _ (Value.ref _) (Value.int _ _)) _ _ _); k_here; (first | k_dflt (refine' m_getT (by k_asm) (by k_mem) (by decide) (by first | decide | tb_rel) (by rfl) ?_ (by with_unfolding_all rfl)) | k_dflt (refine' m_get (by k_asm) (by k_mem) (by first | decide | tb_rel) (by first | decide | tb_rel) (by first | assumption | rfl) ?_ (by with_unfolding_all rfl) (by intro _; with_unfolding_all rfl)))) | ((show wpAny _ _ (callWith _ (Prod.fst (Value.builtin _, _)) (Prod.snd (_, _ :: _)) (backTo _ (starEach (_ :: _) _)) []) _ _ _); refine callWith_method1 ?_ (by with_unfolding_all rfl) (by with_unfolding_all rfl)) | ((show wpAny _ _ (compareOp _ (Value.str _ _) _) _ _ _); k_here; (first | ((show wpAny _ _ (compareOp CmpOp.Eq (Value.str _ _) (Value.str _ _)) _ _ _); refine m_eqS (by assumption) ?_) | ((show wpAny _ _ (compareOp CmpOp.In (Value.str _ _) (Value.ref _)) _ _ _); (first | k_dflt (refine' m_inT (by k_asm) (by k_mem) (by assumption) ?_) | k_dflt (refine' m_inTop (by k_asm) (by k_asm) (by k_is) (by kde_strs) (by first | assumption | rfl | decide) ?_))))) | ((show wpAny _ _ (binaryOp _ (Value.ref _) _) _ _ _); k_here; (first | ((show wpAny _ _ (binaryOp Operator.Add (Value.ref _) (Value.ref _)) _ _ _); k_dflt (refine' m_add (by k_asm) (by k_asm) (by k_mem) (by k_mem) (by tb_rel) (by tb_rel) ?_)) | ((show wpAny _ _ (binaryOp Operator.Mult (Value.ref _) (Value.int _ _)) _ _ _); k_dflt (refine' m_mul (by k_asm) (by k_asm) (by k_mem) (by rfl) (by omega) ?_))); intro Dw hw Fw Nw lw; (try k_lt lw); (try k_sweep))) | ((with_reducible show UnrEnd _ _ _ _ _ _ _); (rename Fr _ _ _ _ => uF); (rename News _ _ _ _ => uN); k_dflt (apply unr_off uF uN (by k_mem)); (· repeat (first | exact off_nil | (apply off_all; tbn_find) | apply off_eq | (apply off_ne; · k_ne))); refine ⟨by k_mem, ?_⟩) | walk1 | (dsimp only; walk1) | (leave1; (try dsimp only))))
  rename News _ _ _ _ => kN
  rename Fr _ _ _ _ => kF
  refine' hret _ ((_, listOf [Value.ref c, .ref q].toArray _) :: T) _ _ kF ?n ⟨_, _, rfl, rfl, ?l⟩
  case n =>
    intro p hp
    rcases List.mem_cons.mp hp with h | h
    · rw [h]; exact kN _ (by k_mem)
    · exact kN p (by repeat (first | exact h | refine List.Mem.tail _ ?_))
  case l => exact tb_ltOf (by tbn_find)
theorem upd_letter {D : Addr} {o o' : Obj} {T T' : List (Addr × Obj)} (U : Upd D o o' T T') : ∃ R : List (Addr × Obj), OwnOff R [D] ∧ (∀ p ∈ R, p ∈ T) ∧ (∀ p ∈ T', p = (D, o') ∨ p ∈ R) ∧ (D, o) ∈ T := by
  obtain ⟨pre, post, rfl, rfl, a, c⟩ := U.split
  refine ⟨pre ++ post, fun p hp b hb => ?_, fun p hp => ?_, fun p hp => ?_, List.mem_append_right _ (.head _)⟩
  · rw [List.mem_singleton.mp hb]
    exact (List.mem_append.mp hp).elim (a p) (c p)
  · exact (List.mem_append.mp hp).elim (fun h => List.mem_append_left _ h) fun h => List.mem_append_right _ (.tail _ h)
  · rcases List.mem_append.mp hp with h | h
    · exact .inr (List.mem_append_left _ h)
    · exact (List.mem_cons.mp h).imp id fun h => List.mem_append_right _ h
set_option maxRecDepth 100000 in
set_option maxHeartbeats 16000000 in
theorem emit_c (w : World) (dp un : Nat) (hdp : dp ≤ 400) (hun : un ≤ 200) (x dx ol : Addr) (hs : Int) (tk0 : Tok) (v : Value) (O : List Value) (k : Nat) (T T' : List (Addr × Obj)) (hx : (x, instObj 94 dx) ∈ T) (hd : (dx, dictOf [⟨hs, sv "orders" tk0, .ref ol⟩] 1) ∈ T)
    (U : Upd ol (listOf O.toArray k) (listOf (O ++ [v]).toArray (k + 1)) T T') (w1 : ol ≠ x) (w2 : ol ≠ dx) (hz : O.length ≤ 90000) :
    CallOf w dp un 58 [.ref x, v] T (fun T2 r => T2 = T' ∧ ∃ i tk, r = .int i tk ∧ i = (O.length : Int)) := by
  w_top off
  obtain ⟨R, hR, h1, h2, h3⟩ := upd_letter U
  unfold CallOf
  intro mg_ mb_ mean_ gd_ cn_ cs_ a_ ccd_ cl_ outer_ A_ base_ hb_ L_ m_ s_ Q_ E_ B_ F_ X_ N_ Tp_ hk_ hret
  replace N_ : News hb_ L_ s_.heap ((ol, listOf O.toArray k) :: (x, instObj 94 dx) :: (dx, dictOf [⟨hs, sv "orders" tk0, .ref ol⟩] 1) :: R) := fun p hp => N_ p (by
    rcases List.mem_cons.mp hp with rfl | hp
    · exact h3
    rcases List.mem_cons.mp hp with rfl | hp
    · exact hx
    rcases List.mem_cons.mp hp with rfl | hp
    · exact hd
    exact h1 p hp)
  clear U hx hd h1 h3
  refine wpAny_call ?_
  k_dflt ktr_enter
  repeat' ((fail_if_success (with_reducible show Q_ _ _)); (first | (k_unfold; (try dsimp only)) | (k_end; wrow_close) | (with_reducible first | ((show wpAny _ _ (call (Value.builtin _) _) _ _ _); k_here; (first | ((show wpAny _ _ (call (Value.builtin "len") _) _ _ _); (first | k_dflt (refine' m_lenL (by k_asm) (by k_mem) (by first | (show _ = (0 : Int); rfl) | (show _ = (1 : Int); rfl) | (show _ = (2 : Int); rfl) | (show _ = (3 : Int); rfl) | (show _ = (4 : Int); rfl)) (by decide) ?_) | k_dflt (refine' m_len (by k_asm) (by k_mem) (by tb_rel) ?_))) | ((first | ((show wpAny _ _ (call (Value.builtin "list.append") _) _ _ _); k_dflt (refine' m_append (by k_asm) (by k_asm) (by first | assumption | k_upd) (by tb_rel) ?_)) | ((show wpAny _ _ (call (Value.builtin "list.extend") _) _ _ _); (first | k_dflt (refine' m_extend_nil (by k_asm) (by k_asm) (by k_mem) (by k_upd) (by tb_rel) ?_) | k_dflt (refine' m_extend (by k_asm) (by k_asm) (by k_mem) (by kl_some) (by k_upd) (by tb_rel) (by tb_rel) ?_))) | ((show wpAny _ _ (call (Value.builtin "list.pop") _) _ _ _); k_dflt (refine' m_pop (by k_asm) (by k_asm) (by k_upd) (by tb_rel) ?_))); intro hw Fw Nw; (try simp only [List.cons_append, List.nil_append] at Nw); (try k_sweep)))) | ((show wpAny _ _ (setItem (Value.ref _) (Value.int _ _) _) _ _ _); k_here; k_dflt (refine' m_set (by k_asm) (by k_asm) (by k_upd) (by tb_rel) (by tb_rel) (by tb_rel) ?_); intro hw Fw Nw; (try simp only [List.cons_append, List.nil_append] at Nw); (try k_sweep)) | ((show WhlIf _ _ _); (first | (refine WhlIf.yes (decide_eq_true (by tb_rel)) ?_) | (refine WhlIf.no (decide_eq_false (by tb_rel)) ?_))) | ((first | show wpAny _ _ (exec (Stmt.For (PySem.Expr.Name _ _) (PySem.Expr.Name _ _) _ _ _) _) _ _ _ | show wpAny _ _ (exec (Stmt.For (PySem.Expr.Name _ _) (PySem.Expr.Subscript _ _ _) _ _ _) _) _ _ _); k_here; (rename Fr _ _ _ _ => Fw'); (with_unfolding_all refine' For_invVF Fw' (by exact rfl) (by exact rfl) ?_); k_whole) | ((show wpAny _ _ (pyIter (Value.ref _)) _ _ _); k_here; (rename Fr _ _ _ _ => Fw'); (rename News _ _ _ _ => Nw'); (first | (with_unfolding_all refine iter_listUnr (vs := [_]) (by rfl) Fw' Nw' (by k_mem) (by rfl) (by rfl) ?_) | (with_unfolding_all refine iter_listUnr (vs := [_, _]) (by rfl) Fw' Nw' (by k_mem) (by rfl) (by rfl) ?_)); clear Fw'; intro iw lw; (try k_lt lw)) | ((show wpAny _ _ (subscriptTail _ _ (Value.ref _) (Value.int _ _)) _ _ _); k_here; (first | k_dflt (refine' m_getT (by k_asm) (by k_mem) (by decide) (by first | decide | tb_rel) (by rfl) ?_ (by with_unfolding_all rfl)) | k_dflt (refine' m_get (by k_asm) (by k_mem) (by first | decide | tb_rel) (by first | decide | tb_rel) (by first | assumption | rfl) ?_ (by with_unfolding_all rfl) (by intro _; with_unfolding_all rfl)))) | ((show wpAny _ _ (callWith _ (Prod.fst (Value.builtin _, _)) (Prod.snd (_, _ :: _)) (backTo _ (starEach (_ :: _) _)) []) _ _ _); refine callWith_method1 ?_ (by with_unfolding_all rfl) (by with_unfolding_all rfl)) | ((show wpAny _ _ (compareOp _ (Value.str _ _) _) _ _ _); k_here; (first | ((show wpAny _ _ (compareOp CmpOp.Eq (Value.str _ _) (Value.str _ _)) _ _ _); refine m_eqS (by assumption) ?_) | ((show wpAny _ _ (compareOp CmpOp.In (Value.str _ _) (Value.ref _)) _ _ _); (first | k_dflt (refine' m_inT (by k_asm) (by k_mem) (by assumption) ?_) | k_dflt (refine' m_inTop (by k_asm) (by k_asm) (by k_is) (by kde_strs) (by first | assumption | rfl | decide) ?_))))) | ((show wpAny _ _ (binaryOp _ (Value.ref _) _) _ _ _); k_here; (first | ((show wpAny _ _ (binaryOp Operator.Add (Value.ref _) (Value.ref _)) _ _ _); k_dflt (refine' m_add (by k_asm) (by k_asm) (by k_mem) (by k_mem) (by tb_rel) (by tb_rel) ?_)) | ((show wpAny _ _ (binaryOp Operator.Mult (Value.ref _) (Value.int _ _)) _ _ _); k_dflt (refine' m_mul (by k_asm) (by k_asm) (by k_mem) (by rfl) (by omega) ?_))); intro Dw hw Fw Nw lw; (try k_lt lw); (try k_sweep))) | ((with_reducible show UnrEnd _ _ _ _ _ _ _); (rename Fr _ _ _ _ => uF); (rename News _ _ _ _ => uN); k_dflt (apply unr_off uF uN (by k_mem)); (· repeat (first | exact off_nil | (apply off_all; tbn_find) | apply off_eq | (apply off_ne; · k_ne))); refine ⟨by k_mem, ?_⟩) | walk1 | (dsimp only; walk1) | (leave1; (try dsimp only))))
  rename News _ _ _ _ => kN
  rename Fr _ _ _ _ => kF
  exact hret _ _ _ _ kF (fun p hp => kN p ((h2 p hp).elim (fun e => e ▸ .head _) fun h => .tail _ (.tail _ (.tail _ h)))) ⟨rfl, _, _, rfl, by simp only [List.length_append, List.length_cons, List.length_nil, Int.natCast_add]; omega⟩
/-- what begun leaves behind, whatever the sign -/
def Aft (T T2 : List (Addr × Obj)) (x dx ol : Addr) (hs : Int) (tk0 : Tok) (O' ws : List Value) (a : Addr) : Prop :=
  OneEach T2 ∧ (∀ p ∈ T, p ∈ T2) ∧ (∃ k, (ol, listOf O'.toArray k) ∈ T2) ∧ (x, instObj 94 dx) ∈ T2 ∧ (dx, dictOf [⟨hs, sv "orders" tk0, .ref ol⟩] 1) ∈ T2 ∧ (∃ n, (a, listOf ws.toArray n) ∈ T2) ∧ ∀ p ∈ T, p.1 ≠ a
def BOne (T : List (Addr × Obj)) (v x dx ol : Addr) (hs : Int) (tk0 : Tok) (O : List Value) (P : List (Addr × Obj) → Value → Prop) : Prop :=
  ∃ (ks : Str) (i : Int) (t2 t3 : Tok), OneWord ks ∧ (v, tupO [.str ks t2, .int i t3]) ∈ T ∧ ∀ (T2 : List (Addr × Obj)) (a r : Addr) (u1 u2 u3 : Nat), Aft T T2 x dx ol hs tk0 (O ++ [.ref r]) [] a → (r, tupO [sv "one" u1, .str ks u2, .int i u3]) ∈ T2 → P T2 (.ref a)
def BArb (T : List (Addr × Obj)) (v x dx ol : Addr) (hs : Int) (tk0 : Tok) (O : List Value) (P : List (Addr × Obj) → Value → Prop) : Prop :=
  ∃ (v1 : Value) (t2 : Tok), (v, tupO [sv "arbno" t2, v1]) ∈ T ∧ ∀ (T2 : List (Addr × Obj)) (a sp mk p1 p2 p3 p4 g j e ll : Addr) (n1 n2 u1 u2 u3 u4 u5 u6 u7 u8 u9 w1 w2 w3 : Nat) (i1 i2 i3 i4 : Int),
    Aft T T2 x dx ol hs tk0 (O ++ [.ref sp, .none, .ref mk]) [.ref p1, .ref p2, .ref p3, .ref p4] a → (sp, tupO [sv "split" u1, .int i1 u2]) ∈ T2 → (mk, tupO [sv "mark" u3]) ∈ T2 →
    (p1, tupO [sv "put" u4, v1]) ∈ T2 → (g, tupO [sv "gain" u6]) ∈ T2 → (p2, tupO [sv "emit" u5, .ref g]) ∈ T2 → (j, tupO [sv "jump" u8, .int i2 u9]) ∈ T2 → (p3, tupO [sv "emit" u7, .ref j]) ∈ T2 →
    (p4, tupO [sv "meet" w1, .ref e]) ∈ T2 → (e, listOf [Value.int i3 w2, .ref ll].toArray n1) ∈ T2 → (ll, listOf [Value.int i4 w3].toArray n2) ∈ T2 → (∀ p ∈ T, p.1 ≠ e) → (∀ p ∈ T, p.1 ≠ ll) → ol ≠ e → ol ≠ ll → i1 = O.length + 2 → i2 = O.length → i3 = O.length → i4 = O.length + 1 → P T2 (.ref a)
def BMk (T : List (Addr × Obj)) (v x dx ol : Addr) (hs : Int) (tk0 : Tok) (O : List Value) (P : List (Addr × Obj) → Value → Prop) : Prop :=
  ∃ (kd wd : String) (v1 v2 : Value) (t2 : Tok), (kd = "later" ∧ wd = "name" ∨ kd = "now" ∧ wd = "set") ∧ (v, tupO [sv kd t2, v1, v2]) ∈ T ∧ ∀ (T2 : List (Addr × Obj)) (a mk p1 p2 g : Addr) (u1 u2 u3 u4 : Nat),
    Aft T T2 x dx ol hs tk0 (O ++ [.ref mk]) [.ref p1, .ref p2] a → (mk, tupO [sv "mark" u1]) ∈ T2 → (p1, tupO [sv "put" u2, v1]) ∈ T2 → (p2, tupO [sv "emit" u3, .ref g]) ∈ T2 → (g, tupO [sv wd u4, v2]) ∈ T2 → P T2 (.ref a)
def BAlt (T : List (Addr × Obj)) (v x dx ol : Addr) (hs : Int) (tk0 : Tok) (O : List Value) (P : List (Addr × Obj) → Value → Prop) : Prop :=
  ∃ (c q : Addr) (v1 v2 : Value) (i : Int) (t2 t3 t4 t5 : Tok), (v, tupO [sv "alt" t2, .ref c, .ref q]) ∈ T ∧ (c, tupO [sv "cat" t3, v1, v2]) ∈ T ∧ (q, tupO [sv "pos" t4, .int i t5]) ∈ T ∧ ∀ (T2 : List (Addr × Obj)) (a e ll p1 p2 p3 p4 p5 : Addr) (n1 n2 u1 u2 u3 u4 u5 u6 : Nat),
    Aft T T2 x dx ol hs tk0 O [.ref p1, .ref p2, .ref p3, .ref p4, .ref p5] a → (p1, tupO [sv "open" u1, .ref e]) ∈ T2 → (p2, tupO [sv "put" u2, .ref c]) ∈ T2 → (p3, tupO [sv "shut" u3, .ref e]) ∈ T2 → (p4, tupO [sv "put" u4, .ref q]) ∈ T2 → (p5, tupO [sv "meet" u5, .ref e]) ∈ T2 →
    (e, listOf [Value.int (-1) u6, Value.ref ll].toArray n1) ∈ T2 → (ll, listOf ([] : List Value).toArray n2) ∈ T2 → (∀ p ∈ T, p.1 ≠ e) → (∀ p ∈ T, p.1 ≠ ll) → ol ≠ e → ol ≠ ll → e ≠ ll → P T2 (.ref a)
def BCat (T : List (Addr × Obj)) (v x dx ol : Addr) (hs : Int) (tk0 : Tok) (O : List Value) (P : List (Addr × Obj) → Value → Prop) : Prop :=
  ∃ (c q : Addr) (ks : Str) (rest : List Value) (i : Int) (t2 t3 t4 t5 : Tok), (ks == Str.ofString "cat") = false ∧ (ks == Str.ofString "chars") = false ∧ (v, tupO [sv "cat" t2, .ref c, .ref q]) ∈ T ∧ (c, tupO (.str ks t3 :: rest)) ∈ T ∧ (q, tupO [sv "pos" t4, .int i t5]) ∈ T ∧ ∀ (T2 : List (Addr × Obj)) (a p1 p2 : Addr) (u1 u2 : Nat),
    Aft T T2 x dx ol hs tk0 O [.ref p1, .ref p2] a → (p1, tupO [sv "put" u1, .ref c]) ∈ T2 → (p2, tupO [sv "put" u2, .ref q]) ∈ T2 → P T2 (.ref a)
theorem news_lits3 {h₀ h : Heap} {L : Addr} {a b c : Addr × Obj} {T : List (Addr × Obj)} (ps : List (Addr × Obj)) (N : News h₀ L h (a :: b :: c :: T)) (hp : ∀ p ∈ ps, p ∈ T) : News h₀ L h (a :: b :: c :: (ps ++ T)) := fun q hq => N q (by
  simp only [List.mem_cons, List.mem_append] at hq ⊢
  rcases hq with h | h | h | h | h
  · exact .inl h
  · exact .inr (.inl h)
  · exact .inr (.inr (.inl h))
  · exact .inr (.inr (.inr (hp q h)))
  · exact .inr (.inr (.inr h)))
theorem news_off3 {h₀ h : Heap} {L : Addr} {a b c : Addr × Obj} {T : List (Addr × Obj)} {e : Addr} {o : Obj} (N : News h₀ L h (a :: b :: c :: T)) (he : (e, o) ∈ T) : News h₀ L h (a :: b :: c :: (e, o) :: off T e) := fun q hq => N q (by
  simp only [List.mem_cons] at hq ⊢
  rcases hq with h | h | h | h | h
  · exact .inl h
  · exact .inr (.inl h)
  · exact .inr (.inr (.inl h))
  · exact .inr (.inr (.inr (h ▸ he)))
  · exact .inr (.inr (.inr (mem_off.mp h).1)))
theorem own_offs {T : List (Addr × Obj)} {ol e : Addr} (hT : OwnOff T [ol]) : OwnOff (off T e) [ol, e] := fun p hp b hb => by
  obtain ⟨h1, h2⟩ := mem_off.mp hp
  simp only [List.mem_cons, List.not_mem_nil, or_false] at hb
  rcases hb with rfl | rfl
  · exact hT p h1 _ (.head _)
  · exact h2
set_option maxRecDepth 100000 in
set_option maxHeartbeats 16000000 in
theorem begun_c (w : World) (x dx ol v : Addr) (hs : Int) (tk0 : Tok) (O : List Value) (k : Nat) (T : List (Addr × Obj)) (P : List (Addr × Obj) → Value → Prop) (hT : OwnOff T [ol]) (w1 : ol ≠ x) (w2 : ol ≠ dx) (hz : O.length ≤ 20000)
    (K : BOne T v x dx ol hs tk0 O P ∨ BArb T v x dx ol hs tk0 O P ∨ BMk T v x dx ol hs tk0 O P ∨ BAlt T v x dx ol hs tk0 O P ∨ BCat T v x dx ol hs tk0 O P) :
    CallOf w 304 13 70 [.ref x, .ref v] ((ol, listOf O.toArray k) :: (x, instObj 94 dx) :: (dx, dictOf [⟨hs, sv "orders" tk0, .ref ol⟩] 1) :: T) P := by
  w_top off
  unfold CallOf
  intro mg_ mb_ mean_ gd_ cn_ cs_ a_ ccd_ cl_ outer_ A_ base_ hb_ L_ m_ s_ Q_ E_ B_ F_ X_ N_ Tp_ hk_ hret
  refine wpAny_call ?_
  k_dflt ktr_enter
  rcases K with K | K | K | K | K
  · obtain ⟨ks, i, t2, t3, ⟨hk1, hk2, hk3, hk4, hk5, hk6⟩, hv, hn⟩ := K
    rename News _ _ _ _ => bN
    replace bN := news_lits3 [(v, tupO [.str ks t2, .int i t3])] bN (List.forall_mem_cons.mpr ⟨hv, List.forall_mem_nil _⟩)
    simp only [List.cons_append, List.nil_append] at bN
    have b_v : ol ≠ v := Ne.symm (hT _ hv _ (.head _))
    repeat' ((fail_if_success (with_reducible show wpAny _ _ (call (Value.ref 58) _) _ _ _)); (fail_if_success (with_reducible show Q_ _ _)); (first | (k_unfold; (try dsimp only)) | (k_end; wrow_close) | (with_reducible first | ((show wpAny _ _ (call (Value.builtin _) _) _ _ _); k_here; (first | ((show wpAny _ _ (call (Value.builtin "len") _) _ _ _); (first | k_dflt (refine' m_lenL (by k_asm) (by k_mem) (by first | (show _ = (0 : Int); rfl) | (show _ = (1 : Int); rfl) | (show _ = (2 : Int); rfl) | (show _ = (3 : Int); rfl) | (show _ = (4 : Int); rfl)) (by decide) ?_) | k_dflt (refine' m_len (by k_asm) (by k_mem) (by tb_rel) ?_))) | ((first | ((show wpAny _ _ (call (Value.builtin "list.append") _) _ _ _); k_dflt (refine' m_append (by k_asm) (by k_asm) (by first | assumption | k_upd) (by tb_rel) ?_)) | ((show wpAny _ _ (call (Value.builtin "list.extend") _) _ _ _); (first | k_dflt (refine' m_extend_nil (by k_asm) (by k_asm) (by k_mem) (by k_upd) (by tb_rel) ?_) | k_dflt (refine' m_extend (by k_asm) (by k_asm) (by k_mem) (by kl_some) (by k_upd) (by tb_rel) (by tb_rel) ?_))) | ((show wpAny _ _ (call (Value.builtin "list.pop") _) _ _ _); k_dflt (refine' m_pop (by k_asm) (by k_asm) (by k_upd) (by tb_rel) ?_))); intro hw Fw Nw; (try simp only [List.cons_append, List.nil_append] at Nw); (try k_sweep)))) | ((show wpAny _ _ (setItem (Value.ref _) (Value.int _ _) _) _ _ _); k_here; k_dflt (refine' m_set (by k_asm) (by k_asm) (by k_upd) (by tb_rel) (by tb_rel) (by tb_rel) ?_); intro hw Fw Nw; (try simp only [List.cons_append, List.nil_append] at Nw); (try k_sweep)) | ((show WhlIf _ _ _); (first | (refine WhlIf.yes (decide_eq_true (by tb_rel)) ?_) | (refine WhlIf.no (decide_eq_false (by tb_rel)) ?_))) | ((first | show wpAny _ _ (exec (Stmt.For (PySem.Expr.Name _ _) (PySem.Expr.Name _ _) _ _ _) _) _ _ _ | show wpAny _ _ (exec (Stmt.For (PySem.Expr.Name _ _) (PySem.Expr.Subscript _ _ _) _ _ _) _) _ _ _); k_here; (rename Fr _ _ _ _ => Fw'); (with_unfolding_all refine' For_invVF Fw' (by exact rfl) (by exact rfl) ?_); k_whole) | ((show wpAny _ _ (pyIter (Value.ref _)) _ _ _); k_here; (rename Fr _ _ _ _ => Fw'); (rename News _ _ _ _ => Nw'); (first | (with_unfolding_all refine iter_listUnr (vs := [_]) (by rfl) Fw' Nw' (by k_mem) (by rfl) (by rfl) ?_) | (with_unfolding_all refine iter_listUnr (vs := [_, _]) (by rfl) Fw' Nw' (by k_mem) (by rfl) (by rfl) ?_)); clear Fw'; intro iw lw; (try k_lt lw)) | ((show wpAny _ _ (subscriptTail _ _ (Value.ref _) (Value.int _ _)) _ _ _); k_here; (first | k_dflt (refine' m_getT (by k_asm) (by k_mem) (by decide) (by first | decide | tb_rel) (by rfl) ?_ (by with_unfolding_all rfl)) | k_dflt (refine' m_get (by k_asm) (by k_mem) (by first | decide | tb_rel) (by first | decide | tb_rel) (by first | assumption | rfl) ?_ (by with_unfolding_all rfl) (by intro _; with_unfolding_all rfl)))) | ((show wpAny _ _ (callWith _ (Prod.fst (Value.builtin _, _)) (Prod.snd (_, _ :: _)) (backTo _ (starEach (_ :: _) _)) []) _ _ _); refine callWith_method1 ?_ (by with_unfolding_all rfl) (by with_unfolding_all rfl)) | ((show wpAny _ _ (compareOp _ (Value.str _ _) _) _ _ _); k_here; (first | ((show wpAny _ _ (compareOp CmpOp.Eq (Value.str _ _) (Value.str _ _)) _ _ _); refine m_eqS (by assumption) ?_) | ((show wpAny _ _ (compareOp CmpOp.In (Value.str _ _) (Value.ref _)) _ _ _); (first | k_dflt (refine' m_inT (by k_asm) (by k_mem) (by assumption) ?_) | k_dflt (refine' m_inTop (by k_asm) (by k_asm) (by k_is) (by kde_strs) (by first | assumption | rfl | decide) ?_))))) | ((show wpAny _ _ (binaryOp _ (Value.ref _) _) _ _ _); k_here; (first | ((show wpAny _ _ (binaryOp Operator.Add (Value.ref _) (Value.ref _)) _ _ _); k_dflt (refine' m_add (by k_asm) (by k_asm) (by k_mem) (by k_mem) (by tb_rel) (by tb_rel) ?_)) | ((show wpAny _ _ (binaryOp Operator.Mult (Value.ref _) (Value.int _ _)) _ _ _); k_dflt (refine' m_mul (by k_asm) (by k_asm) (by k_mem) (by rfl) (by omega) ?_))); intro Dw hw Fw Nw lw; (try k_lt lw); (try k_sweep))) | ((with_reducible show UnrEnd _ _ _ _ _ _ _); (rename Fr _ _ _ _ => uF); (rename News _ _ _ _ => uN); k_dflt (apply unr_off uF uN (by k_mem)); (· repeat (first | exact off_nil | (apply off_all; tbn_find) | apply off_eq | (apply off_ne; · k_ne))); refine ⟨by k_mem, ?_⟩) | walk1 | (dsimp only; walk1) | (leave1; (try dsimp only))))
    rename News _ _ _ _ => eN
    rename Fr _ _ _ _ => eF
    refine emit_c _ 305 16 (by exact Nat.le_of_ble_eq_true rfl) (by exact Nat.le_of_ble_eq_true rfl) x dx ol hs tk0 _ _ _ _ _ (by k_mem) (by k_mem) (by k_upd) w1 w2 (by tb_rel) _ _ _ _ _ _ _ _ _ _ _ _ _ _ _ _ _ _ (by assumption) eF (by k_asm) eN (by assumption) (by rfl) ?_
    clear eF eN
    rintro _ _ h' tk' F' N' ⟨rfl, ie1, te1, rfl, hie1⟩
    (try dsimp only)
    repeat' ((fail_if_success (with_reducible show Q_ _ _)); (first | (k_unfold; (try dsimp only)) | (k_end; wrow_close) | (with_reducible first | ((show wpAny _ _ (call (Value.builtin _) _) _ _ _); k_here; (first | ((show wpAny _ _ (call (Value.builtin "len") _) _ _ _); (first | k_dflt (refine' m_lenL (by k_asm) (by k_mem) (by first | (show _ = (0 : Int); rfl) | (show _ = (1 : Int); rfl) | (show _ = (2 : Int); rfl) | (show _ = (3 : Int); rfl) | (show _ = (4 : Int); rfl)) (by decide) ?_) | k_dflt (refine' m_len (by k_asm) (by k_mem) (by tb_rel) ?_))) | ((first | ((show wpAny _ _ (call (Value.builtin "list.append") _) _ _ _); k_dflt (refine' m_append (by k_asm) (by k_asm) (by first | assumption | k_upd) (by tb_rel) ?_)) | ((show wpAny _ _ (call (Value.builtin "list.extend") _) _ _ _); (first | k_dflt (refine' m_extend_nil (by k_asm) (by k_asm) (by k_mem) (by k_upd) (by tb_rel) ?_) | k_dflt (refine' m_extend (by k_asm) (by k_asm) (by k_mem) (by kl_some) (by k_upd) (by tb_rel) (by tb_rel) ?_))) | ((show wpAny _ _ (call (Value.builtin "list.pop") _) _ _ _); k_dflt (refine' m_pop (by k_asm) (by k_asm) (by k_upd) (by tb_rel) ?_))); intro hw Fw Nw; (try simp only [List.cons_append, List.nil_append] at Nw); (try k_sweep)))) | ((show wpAny _ _ (setItem (Value.ref _) (Value.int _ _) _) _ _ _); k_here; k_dflt (refine' m_set (by k_asm) (by k_asm) (by k_upd) (by tb_rel) (by tb_rel) (by tb_rel) ?_); intro hw Fw Nw; (try simp only [List.cons_append, List.nil_append] at Nw); (try k_sweep)) | ((show WhlIf _ _ _); (first | (refine WhlIf.yes (decide_eq_true (by tb_rel)) ?_) | (refine WhlIf.no (decide_eq_false (by tb_rel)) ?_))) | ((first | show wpAny _ _ (exec (Stmt.For (PySem.Expr.Name _ _) (PySem.Expr.Name _ _) _ _ _) _) _ _ _ | show wpAny _ _ (exec (Stmt.For (PySem.Expr.Name _ _) (PySem.Expr.Subscript _ _ _) _ _ _) _) _ _ _); k_here; (rename Fr _ _ _ _ => Fw'); (with_unfolding_all refine' For_invVF Fw' (by exact rfl) (by exact rfl) ?_); k_whole) | ((show wpAny _ _ (pyIter (Value.ref _)) _ _ _); k_here; (rename Fr _ _ _ _ => Fw'); (rename News _ _ _ _ => Nw'); (first | (with_unfolding_all refine iter_listUnr (vs := [_]) (by rfl) Fw' Nw' (by k_mem) (by rfl) (by rfl) ?_) | (with_unfolding_all refine iter_listUnr (vs := [_, _]) (by rfl) Fw' Nw' (by k_mem) (by rfl) (by rfl) ?_)); clear Fw'; intro iw lw; (try k_lt lw)) | ((show wpAny _ _ (subscriptTail _ _ (Value.ref _) (Value.int _ _)) _ _ _); k_here; (first | k_dflt (refine' m_getT (by k_asm) (by k_mem) (by decide) (by first | decide | tb_rel) (by rfl) ?_ (by with_unfolding_all rfl)) | k_dflt (refine' m_get (by k_asm) (by k_mem) (by first | decide | tb_rel) (by first | decide | tb_rel) (by first | assumption | rfl) ?_ (by with_unfolding_all rfl) (by intro _; with_unfolding_all rfl)))) | ((show wpAny _ _ (callWith _ (Prod.fst (Value.builtin _, _)) (Prod.snd (_, _ :: _)) (backTo _ (starEach (_ :: _) _)) []) _ _ _); refine callWith_method1 ?_ (by with_unfolding_all rfl) (by with_unfolding_all rfl)) | ((show wpAny _ _ (compareOp _ (Value.str _ _) _) _ _ _); k_here; (first | ((show wpAny _ _ (compareOp CmpOp.Eq (Value.str _ _) (Value.str _ _)) _ _ _); refine m_eqS (by assumption) ?_) | ((show wpAny _ _ (compareOp CmpOp.In (Value.str _ _) (Value.ref _)) _ _ _); (first | k_dflt (refine' m_inT (by k_asm) (by k_mem) (by assumption) ?_) | k_dflt (refine' m_inTop (by k_asm) (by k_asm) (by k_is) (by kde_strs) (by first | assumption | rfl | decide) ?_))))) | ((show wpAny _ _ (binaryOp _ (Value.ref _) _) _ _ _); k_here; (first | ((show wpAny _ _ (binaryOp Operator.Add (Value.ref _) (Value.ref _)) _ _ _); k_dflt (refine' m_add (by k_asm) (by k_asm) (by k_mem) (by k_mem) (by tb_rel) (by tb_rel) ?_)) | ((show wpAny _ _ (binaryOp Operator.Mult (Value.ref _) (Value.int _ _)) _ _ _); k_dflt (refine' m_mul (by k_asm) (by k_asm) (by k_mem) (by rfl) (by omega) ?_))); intro Dw hw Fw Nw lw; (try k_lt lw); (try k_sweep))) | ((with_reducible show UnrEnd _ _ _ _ _ _ _); (rename Fr _ _ _ _ => uF); (rename News _ _ _ _ => uN); k_dflt (apply unr_off uF uN (by k_mem)); (· repeat (first | exact off_nil | (apply off_all; tbn_find) | apply off_eq | (apply off_ne; · k_ne))); refine ⟨by k_mem, ?_⟩) | walk1 | (dsimp only; walk1) | (leave1; (try dsimp only))))
    rename News _ _ _ _ => kN
    rename Fr _ _ _ _ => kF
    exact hret _ _ _ _ kF kN (hn _ _ _ _ _ _ ⟨news_one kN, (fun p hp => by repeat (first | exact hp | refine List.Mem.tail _ ?_)), ⟨_, by k_mem⟩, by k_mem, by k_mem, ⟨_, by k_mem⟩, tbn_neAll (by tbn_find)⟩ (by k_mem))
  · obtain ⟨v1, t2, hv, hn⟩ := K
    rename News _ _ _ _ => bN
    replace bN := news_lits3 [(v, tupO [sv "arbno" t2, v1])] bN (List.forall_mem_cons.mpr ⟨hv, List.forall_mem_nil _⟩)
    simp only [List.cons_append, List.nil_append] at bN
    have b_v : ol ≠ v := Ne.symm (hT _ hv _ (.head _))
    repeat' ((fail_if_success (with_reducible show wpAny _ _ (call (Value.ref 58) _) _ _ _)); (fail_if_success (with_reducible show Q_ _ _)); (first | (k_unfold; (try dsimp only)) | (k_end; wrow_close) | (with_reducible first | ((show wpAny _ _ (call (Value.builtin _) _) _ _ _); k_here; (first | ((show wpAny _ _ (call (Value.builtin "len") _) _ _ _); (first | k_dflt (refine' m_lenL (by k_asm) (by k_mem) (by first | (show _ = (0 : Int); rfl) | (show _ = (1 : Int); rfl) | (show _ = (2 : Int); rfl) | (show _ = (3 : Int); rfl) | (show _ = (4 : Int); rfl)) (by decide) ?_) | k_dflt (refine' m_len (by k_asm) (by k_mem) (by tb_rel) ?_))) | ((first | ((show wpAny _ _ (call (Value.builtin "list.append") _) _ _ _); k_dflt (refine' m_append (by k_asm) (by k_asm) (by first | assumption | k_upd) (by tb_rel) ?_)) | ((show wpAny _ _ (call (Value.builtin "list.extend") _) _ _ _); (first | k_dflt (refine' m_extend_nil (by k_asm) (by k_asm) (by k_mem) (by k_upd) (by tb_rel) ?_) | k_dflt (refine' m_extend (by k_asm) (by k_asm) (by k_mem) (by kl_some) (by k_upd) (by tb_rel) (by tb_rel) ?_))) | ((show wpAny _ _ (call (Value.builtin "list.pop") _) _ _ _); k_dflt (refine' m_pop (by k_asm) (by k_asm) (by k_upd) (by tb_rel) ?_))); intro hw Fw Nw; (try simp only [List.cons_append, List.nil_append] at Nw); (try k_sweep)))) | ((show wpAny _ _ (setItem (Value.ref _) (Value.int _ _) _) _ _ _); k_here; k_dflt (refine' m_set (by k_asm) (by k_asm) (by k_upd) (by tb_rel) (by tb_rel) (by tb_rel) ?_); intro hw Fw Nw; (try simp only [List.cons_append, List.nil_append] at Nw); (try k_sweep)) | ((show WhlIf _ _ _); (first | (refine WhlIf.yes (decide_eq_true (by tb_rel)) ?_) | (refine WhlIf.no (decide_eq_false (by tb_rel)) ?_))) | ((first | show wpAny _ _ (exec (Stmt.For (PySem.Expr.Name _ _) (PySem.Expr.Name _ _) _ _ _) _) _ _ _ | show wpAny _ _ (exec (Stmt.For (PySem.Expr.Name _ _) (PySem.Expr.Subscript _ _ _) _ _ _) _) _ _ _); k_here; (rename Fr _ _ _ _ => Fw'); (with_unfolding_all refine' For_invVF Fw' (by exact rfl) (by exact rfl) ?_); k_whole) | ((show wpAny _ _ (pyIter (Value.ref _)) _ _ _); k_here; (rename Fr _ _ _ _ => Fw'); (rename News _ _ _ _ => Nw'); (first | (with_unfolding_all refine iter_listUnr (vs := [_]) (by rfl) Fw' Nw' (by k_mem) (by rfl) (by rfl) ?_) | (with_unfolding_all refine iter_listUnr (vs := [_, _]) (by rfl) Fw' Nw' (by k_mem) (by rfl) (by rfl) ?_)); clear Fw'; intro iw lw; (try k_lt lw)) | ((show wpAny _ _ (subscriptTail _ _ (Value.ref _) (Value.int _ _)) _ _ _); k_here; (first | k_dflt (refine' m_getT (by k_asm) (by k_mem) (by decide) (by first | decide | tb_rel) (by rfl) ?_ (by with_unfolding_all rfl)) | k_dflt (refine' m_get (by k_asm) (by k_mem) (by first | decide | tb_rel) (by first | decide | tb_rel) (by first | assumption | rfl) ?_ (by with_unfolding_all rfl) (by intro _; with_unfolding_all rfl)))) | ((show wpAny _ _ (callWith _ (Prod.fst (Value.builtin _, _)) (Prod.snd (_, _ :: _)) (backTo _ (starEach (_ :: _) _)) []) _ _ _); refine callWith_method1 ?_ (by with_unfolding_all rfl) (by with_unfolding_all rfl)) | ((show wpAny _ _ (compareOp _ (Value.str _ _) _) _ _ _); k_here; (first | ((show wpAny _ _ (compareOp CmpOp.Eq (Value.str _ _) (Value.str _ _)) _ _ _); refine m_eqS (by assumption) ?_) | ((show wpAny _ _ (compareOp CmpOp.In (Value.str _ _) (Value.ref _)) _ _ _); (first | k_dflt (refine' m_inT (by k_asm) (by k_mem) (by assumption) ?_) | k_dflt (refine' m_inTop (by k_asm) (by k_asm) (by k_is) (by kde_strs) (by first | assumption | rfl | decide) ?_))))) | ((show wpAny _ _ (binaryOp _ (Value.ref _) _) _ _ _); k_here; (first | ((show wpAny _ _ (binaryOp Operator.Add (Value.ref _) (Value.ref _)) _ _ _); k_dflt (refine' m_add (by k_asm) (by k_asm) (by k_mem) (by k_mem) (by tb_rel) (by tb_rel) ?_)) | ((show wpAny _ _ (binaryOp Operator.Mult (Value.ref _) (Value.int _ _)) _ _ _); k_dflt (refine' m_mul (by k_asm) (by k_asm) (by k_mem) (by rfl) (by omega) ?_))); intro Dw hw Fw Nw lw; (try k_lt lw); (try k_sweep))) | ((with_reducible show UnrEnd _ _ _ _ _ _ _); (rename Fr _ _ _ _ => uF); (rename News _ _ _ _ => uN); k_dflt (apply unr_off uF uN (by k_mem)); (· repeat (first | exact off_nil | (apply off_all; tbn_find) | apply off_eq | (apply off_ne; · k_ne))); refine ⟨by k_mem, ?_⟩) | walk1 | (dsimp only; walk1) | (leave1; (try dsimp only))))
    rename News _ _ _ _ => eN
    rename Fr _ _ _ _ => eF
    refine emit_c _ 306 19 (by exact Nat.le_of_ble_eq_true rfl) (by exact Nat.le_of_ble_eq_true rfl) x dx ol hs tk0 _ _ _ _ _ (by k_mem) (by k_mem) (by k_upd) w1 w2 (by tb_rel) _ _ _ _ _ _ _ _ _ _ _ _ _ _ _ _ _ _ (by assumption) eF (by k_asm) eN (by assumption) (by rfl) ?_
    clear eF eN
    rintro _ _ h' tk' F' N' ⟨rfl, ie1, te1, rfl, hie1⟩
    (try dsimp only)
    repeat' ((fail_if_success (with_reducible show wpAny _ _ (call (Value.ref 58) _) _ _ _)); (fail_if_success (with_reducible show Q_ _ _)); (first | (k_unfold; (try dsimp only)) | (k_end; wrow_close) | (with_reducible first | ((show wpAny _ _ (call (Value.builtin _) _) _ _ _); k_here; (first | ((show wpAny _ _ (call (Value.builtin "len") _) _ _ _); (first | k_dflt (refine' m_lenL (by k_asm) (by k_mem) (by first | (show _ = (0 : Int); rfl) | (show _ = (1 : Int); rfl) | (show _ = (2 : Int); rfl) | (show _ = (3 : Int); rfl) | (show _ = (4 : Int); rfl)) (by decide) ?_) | k_dflt (refine' m_len (by k_asm) (by k_mem) (by tb_rel) ?_))) | ((first | ((show wpAny _ _ (call (Value.builtin "list.append") _) _ _ _); k_dflt (refine' m_append (by k_asm) (by k_asm) (by first | assumption | k_upd) (by tb_rel) ?_)) | ((show wpAny _ _ (call (Value.builtin "list.extend") _) _ _ _); (first | k_dflt (refine' m_extend_nil (by k_asm) (by k_asm) (by k_mem) (by k_upd) (by tb_rel) ?_) | k_dflt (refine' m_extend (by k_asm) (by k_asm) (by k_mem) (by kl_some) (by k_upd) (by tb_rel) (by tb_rel) ?_))) | ((show wpAny _ _ (call (Value.builtin "list.pop") _) _ _ _); k_dflt (refine' m_pop (by k_asm) (by k_asm) (by k_upd) (by tb_rel) ?_))); intro hw Fw Nw; (try simp only [List.cons_append, List.nil_append] at Nw); (try k_sweep)))) | ((show wpAny _ _ (setItem (Value.ref _) (Value.int _ _) _) _ _ _); k_here; k_dflt (refine' m_set (by k_asm) (by k_asm) (by k_upd) (by tb_rel) (by tb_rel) (by tb_rel) ?_); intro hw Fw Nw; (try simp only [List.cons_append, List.nil_append] at Nw); (try k_sweep)) | ((show WhlIf _ _ _); (first | (refine WhlIf.yes (decide_eq_true (by tb_rel)) ?_) | (refine WhlIf.no (decide_eq_false (by tb_rel)) ?_))) | ((first | show wpAny _ _ (exec (Stmt.For (PySem.Expr.Name _ _) (PySem.Expr.Name _ _) _ _ _) _) _ _ _ | show wpAny _ _ (exec (Stmt.For (PySem.Expr.Name _ _) (PySem.Expr.Subscript _ _ _) _ _ _) _) _ _ _); k_here; (rename Fr _ _ _ _ => Fw'); (with_unfolding_all refine' For_invVF Fw' (by exact rfl) (by exact rfl) ?_); k_whole) | ((show wpAny _ _ (pyIter (Value.ref _)) _ _ _); k_here; (rename Fr _ _ _ _ => Fw'); (rename News _ _ _ _ => Nw'); (first | (with_unfolding_all refine iter_listUnr (vs := [_]) (by rfl) Fw' Nw' (by k_mem) (by rfl) (by rfl) ?_) | (with_unfolding_all refine iter_listUnr (vs := [_, _]) (by rfl) Fw' Nw' (by k_mem) (by rfl) (by rfl) ?_)); clear Fw'; intro iw lw; (try k_lt lw)) | ((show wpAny _ _ (subscriptTail _ _ (Value.ref _) (Value.int _ _)) _ _ _); k_here; (first | k_dflt (refine' m_getT (by k_asm) (by k_mem) (by decide) (by first | decide | tb_rel) (by rfl) ?_ (by with_unfolding_all rfl)) | k_dflt (refine' m_get (by k_asm) (by k_mem) (by first | decide | tb_rel) (by first | decide | tb_rel) (by first | assumption | rfl) ?_ (by with_unfolding_all rfl) (by intro _; with_unfolding_all rfl)))) | ((show wpAny _ _ (callWith _ (Prod.fst (Value.builtin _, _)) (Prod.snd (_, _ :: _)) (backTo _ (starEach (_ :: _) _)) []) _ _ _); refine callWith_method1 ?_ (by with_unfolding_all rfl) (by with_unfolding_all rfl)) | ((show wpAny _ _ (compareOp _ (Value.str _ _) _) _ _ _); k_here; (first | ((show wpAny _ _ (compareOp CmpOp.Eq (Value.str _ _) (Value.str _ _)) _ _ _); refine m_eqS (by assumption) ?_) | ((show wpAny _ _ (compareOp CmpOp.In (Value.str _ _) (Value.ref _)) _ _ _); (first | k_dflt (refine' m_inT (by k_asm) (by k_mem) (by assumption) ?_) | k_dflt (refine' m_inTop (by k_asm) (by k_asm) (by k_is) (by kde_strs) (by first | assumption | rfl | decide) ?_))))) | ((show wpAny _ _ (binaryOp _ (Value.ref _) _) _ _ _); k_here; (first | ((show wpAny _ _ (binaryOp Operator.Add (Value.ref _) (Value.ref _)) _ _ _); k_dflt (refine' m_add (by k_asm) (by k_asm) (by k_mem) (by k_mem) (by tb_rel) (by tb_rel) ?_)) | ((show wpAny _ _ (binaryOp Operator.Mult (Value.ref _) (Value.int _ _)) _ _ _); k_dflt (refine' m_mul (by k_asm) (by k_asm) (by k_mem) (by rfl) (by omega) ?_))); intro Dw hw Fw Nw lw; (try k_lt lw); (try k_sweep))) | ((with_reducible show UnrEnd _ _ _ _ _ _ _); (rename Fr _ _ _ _ => uF); (rename News _ _ _ _ => uN); k_dflt (apply unr_off uF uN (by k_mem)); (· repeat (first | exact off_nil | (apply off_all; tbn_find) | apply off_eq | (apply off_ne; · k_ne))); refine ⟨by k_mem, ?_⟩) | walk1 | (dsimp only; walk1) | (leave1; (try dsimp only))))
    rename News _ _ _ _ => eN
    rename Fr _ _ _ _ => eF
    refine emit_c _ 306 19 (by exact Nat.le_of_ble_eq_true rfl) (by exact Nat.le_of_ble_eq_true rfl) x dx ol hs tk0 _ _ _ _ _ (by k_mem) (by k_mem) (by k_upd) w1 w2 (by tb_rel) _ _ _ _ _ _ _ _ _ _ _ _ _ _ _ _ _ _ (by assumption) eF (by k_asm) eN (by assumption) (by rfl) ?_
    clear eF eN
    rintro _ _ h' tk' F' N' ⟨rfl, ie2, te2, rfl, hie2⟩
    (try dsimp only)
    repeat' ((fail_if_success (with_reducible show wpAny _ _ (call (Value.ref 58) _) _ _ _)); (fail_if_success (with_reducible show Q_ _ _)); (first | (k_unfold; (try dsimp only)) | (k_end; wrow_close) | (with_reducible first | ((show wpAny _ _ (call (Value.builtin _) _) _ _ _); k_here; (first | ((show wpAny _ _ (call (Value.builtin "len") _) _ _ _); (first | k_dflt (refine' m_lenL (by k_asm) (by k_mem) (by first | (show _ = (0 : Int); rfl) | (show _ = (1 : Int); rfl) | (show _ = (2 : Int); rfl) | (show _ = (3 : Int); rfl) | (show _ = (4 : Int); rfl)) (by decide) ?_) | k_dflt (refine' m_len (by k_asm) (by k_mem) (by tb_rel) ?_))) | ((first | ((show wpAny _ _ (call (Value.builtin "list.append") _) _ _ _); k_dflt (refine' m_append (by k_asm) (by k_asm) (by first | assumption | k_upd) (by tb_rel) ?_)) | ((show wpAny _ _ (call (Value.builtin "list.extend") _) _ _ _); (first | k_dflt (refine' m_extend_nil (by k_asm) (by k_asm) (by k_mem) (by k_upd) (by tb_rel) ?_) | k_dflt (refine' m_extend (by k_asm) (by k_asm) (by k_mem) (by kl_some) (by k_upd) (by tb_rel) (by tb_rel) ?_))) | ((show wpAny _ _ (call (Value.builtin "list.pop") _) _ _ _); k_dflt (refine' m_pop (by k_asm) (by k_asm) (by k_upd) (by tb_rel) ?_))); intro hw Fw Nw; (try simp only [List.cons_append, List.nil_append] at Nw); (try k_sweep)))) | ((show wpAny _ _ (setItem (Value.ref _) (Value.int _ _) _) _ _ _); k_here; k_dflt (refine' m_set (by k_asm) (by k_asm) (by k_upd) (by tb_rel) (by tb_rel) (by tb_rel) ?_); intro hw Fw Nw; (try simp only [List.cons_append, List.nil_append] at Nw); (try k_sweep)) | ((show WhlIf _ _ _); (first | (refine WhlIf.yes (decide_eq_true (by tb_rel)) ?_) | (refine WhlIf.no (decide_eq_false (by tb_rel)) ?_))) | ((first | show wpAny _ _ (exec (Stmt.For (PySem.Expr.Name _ _) (PySem.Expr.Name _ _) _ _ _) _) _ _ _ | show wpAny _ _ (exec (Stmt.For (PySem.Expr.Name _ _) (PySem.Expr.Subscript _ _ _) _ _ _) _) _ _ _); k_here; (rename Fr _ _ _ _ => Fw'); (with_unfolding_all refine' For_invVF Fw' (by exact rfl) (by exact rfl) ?_); k_whole) | ((show wpAny _ _ (pyIter (Value.ref _)) _ _ _); k_here; (rename Fr _ _ _ _ => Fw'); (rename News _ _ _ _ => Nw'); (first | (with_unfolding_all refine iter_listUnr (vs := [_]) (by rfl) Fw' Nw' (by k_mem) (by rfl) (by rfl) ?_) | (with_unfolding_all refine iter_listUnr (vs := [_, _]) (by rfl) Fw' Nw' (by k_mem) (by rfl) (by rfl) ?_)); clear Fw'; intro iw lw; (try k_lt lw)) | ((show wpAny _ _ (subscriptTail _ _ (Value.ref _) (Value.int _ _)) _ _ _); k_here; (first | k_dflt (refine' m_getT (by k_asm) (by k_mem) (by decide) (by first | decide | tb_rel) (by rfl) ?_ (by with_unfolding_all rfl)) | k_dflt (refine' m_get (by k_asm) (by k_mem) (by first | decide | tb_rel) (by first | decide | tb_rel) (by first | assumption | rfl) ?_ (by with_unfolding_all rfl) (by intro _; with_unfolding_all rfl)))) | ((show wpAny _ _ (callWith _ (Prod.fst (Value.builtin _, _)) (Prod.snd (_, _ :: _)) (backTo _ (starEach (_ :: _) _)) []) _ _ _); refine callWith_method1 ?_ (by with_unfolding_all rfl) (by with_unfolding_all rfl)) | ((show wpAny _ _ (compareOp _ (Value.str _ _) _) _ _ _); k_here; (first | ((show wpAny _ _ (compareOp CmpOp.Eq (Value.str _ _) (Value.str _ _)) _ _ _); refine m_eqS (by assumption) ?_) | ((show wpAny _ _ (compareOp CmpOp.In (Value.str _ _) (Value.ref _)) _ _ _); (first | k_dflt (refine' m_inT (by k_asm) (by k_mem) (by assumption) ?_) | k_dflt (refine' m_inTop (by k_asm) (by k_asm) (by k_is) (by kde_strs) (by first | assumption | rfl | decide) ?_))))) | ((show wpAny _ _ (binaryOp _ (Value.ref _) _) _ _ _); k_here; (first | ((show wpAny _ _ (binaryOp Operator.Add (Value.ref _) (Value.ref _)) _ _ _); k_dflt (refine' m_add (by k_asm) (by k_asm) (by k_mem) (by k_mem) (by tb_rel) (by tb_rel) ?_)) | ((show wpAny _ _ (binaryOp Operator.Mult (Value.ref _) (Value.int _ _)) _ _ _); k_dflt (refine' m_mul (by k_asm) (by k_asm) (by k_mem) (by rfl) (by omega) ?_))); intro Dw hw Fw Nw lw; (try k_lt lw); (try k_sweep))) | ((with_reducible show UnrEnd _ _ _ _ _ _ _); (rename Fr _ _ _ _ => uF); (rename News _ _ _ _ => uN); k_dflt (apply unr_off uF uN (by k_mem)); (· repeat (first | exact off_nil | (apply off_all; tbn_find) | apply off_eq | (apply off_ne; · k_ne))); refine ⟨by k_mem, ?_⟩) | walk1 | (dsimp only; walk1) | (leave1; (try dsimp only))))
    rename News _ _ _ _ => eN
    rename Fr _ _ _ _ => eF
    refine emit_c _ 306 19 (by exact Nat.le_of_ble_eq_true rfl) (by exact Nat.le_of_ble_eq_true rfl) x dx ol hs tk0 _ _ _ _ _ (by k_mem) (by k_mem) (by k_upd) w1 w2 (by tb_rel) _ _ _ _ _ _ _ _ _ _ _ _ _ _ _ _ _ _ (by assumption) eF (by k_asm) eN (by assumption) (by rfl) ?_
    clear eF eN
    rintro _ _ h' tk' F' N' ⟨rfl, ie3, te3, rfl, hie3⟩
    (try dsimp only)
    repeat' ((fail_if_success (with_reducible show Q_ _ _)); (first | (k_unfold; (try dsimp only)) | (k_end; wrow_close) | (with_reducible first | ((show wpAny _ _ (call (Value.builtin _) _) _ _ _); k_here; (first | ((show wpAny _ _ (call (Value.builtin "len") _) _ _ _); (first | k_dflt (refine' m_lenL (by k_asm) (by k_mem) (by first | (show _ = (0 : Int); rfl) | (show _ = (1 : Int); rfl) | (show _ = (2 : Int); rfl) | (show _ = (3 : Int); rfl) | (show _ = (4 : Int); rfl)) (by decide) ?_) | k_dflt (refine' m_len (by k_asm) (by k_mem) (by tb_rel) ?_))) | ((first | ((show wpAny _ _ (call (Value.builtin "list.append") _) _ _ _); k_dflt (refine' m_append (by k_asm) (by k_asm) (by first | assumption | k_upd) (by tb_rel) ?_)) | ((show wpAny _ _ (call (Value.builtin "list.extend") _) _ _ _); (first | k_dflt (refine' m_extend_nil (by k_asm) (by k_asm) (by k_mem) (by k_upd) (by tb_rel) ?_) | k_dflt (refine' m_extend (by k_asm) (by k_asm) (by k_mem) (by kl_some) (by k_upd) (by tb_rel) (by tb_rel) ?_))) | ((show wpAny _ _ (call (Value.builtin "list.pop") _) _ _ _); k_dflt (refine' m_pop (by k_asm) (by k_asm) (by k_upd) (by tb_rel) ?_))); intro hw Fw Nw; (try simp only [List.cons_append, List.nil_append] at Nw); (try k_sweep)))) | ((show wpAny _ _ (setItem (Value.ref _) (Value.int _ _) _) _ _ _); k_here; k_dflt (refine' m_set (by k_asm) (by k_asm) (by k_upd) (by tb_rel) (by tb_rel) (by tb_rel) ?_); intro hw Fw Nw; (try simp only [List.cons_append, List.nil_append] at Nw); (try k_sweep)) | ((show WhlIf _ _ _); (first | (refine WhlIf.yes (decide_eq_true (by tb_rel)) ?_) | (refine WhlIf.no (decide_eq_false (by tb_rel)) ?_))) | ((first | show wpAny _ _ (exec (Stmt.For (PySem.Expr.Name _ _) (PySem.Expr.Name _ _) _ _ _) _) _ _ _ | show wpAny _ _ (exec (Stmt.For (PySem.Expr.Name _ _) (PySem.Expr.Subscript _ _ _) _ _ _) _) _ _ _); k_here; (rename Fr _ _ _ _ => Fw'); (with_unfolding_all refine' For_invVF Fw' (by exact rfl) (by exact rfl) ?_); k_whole) | ((show wpAny _ _ (pyIter (Value.ref _)) _ _ _); k_here; (rename Fr _ _ _ _ => Fw'); (rename News _ _ _ _ => Nw'); (first | (with_unfolding_all refine iter_listUnr (vs := [_]) (by rfl) Fw' Nw' (by k_mem) (by rfl) (by rfl) ?_) | (with_unfolding_all refine iter_listUnr (vs := [_, _]) (by rfl) Fw' Nw' (by k_mem) (by rfl) (by rfl) ?_)); clear Fw'; intro iw lw; (try k_lt lw)) | ((show wpAny _ _ (subscriptTail _ _ (Value.ref _) (Value.int _ _)) _ _ _); k_here; (first | k_dflt (refine' m_getT (by k_asm) (by k_mem) (by decide) (by first | decide | tb_rel) (by rfl) ?_ (by with_unfolding_all rfl)) | k_dflt (refine' m_get (by k_asm) (by k_mem) (by first | decide | tb_rel) (by first | decide | tb_rel) (by first | assumption | rfl) ?_ (by with_unfolding_all rfl) (by intro _; with_unfolding_all rfl)))) | ((show wpAny _ _ (callWith _ (Prod.fst (Value.builtin _, _)) (Prod.snd (_, _ :: _)) (backTo _ (starEach (_ :: _) _)) []) _ _ _); refine callWith_method1 ?_ (by with_unfolding_all rfl) (by with_unfolding_all rfl)) | ((show wpAny _ _ (compareOp _ (Value.str _ _) _) _ _ _); k_here; (first | ((show wpAny _ _ (compareOp CmpOp.Eq (Value.str _ _) (Value.str _ _)) _ _ _); refine m_eqS (by assumption) ?_) | ((show wpAny _ _ (compareOp CmpOp.In (Value.str _ _) (Value.ref _)) _ _ _); (first | k_dflt (refine' m_inT (by k_asm) (by k_mem) (by assumption) ?_) | k_dflt (refine' m_inTop (by k_asm) (by k_asm) (by k_is) (by kde_strs) (by first | assumption | rfl | decide) ?_))))) | ((show wpAny _ _ (binaryOp _ (Value.ref _) _) _ _ _); k_here; (first | ((show wpAny _ _ (binaryOp Operator.Add (Value.ref _) (Value.ref _)) _ _ _); k_dflt (refine' m_add (by k_asm) (by k_asm) (by k_mem) (by k_mem) (by tb_rel) (by tb_rel) ?_)) | ((show wpAny _ _ (binaryOp Operator.Mult (Value.ref _) (Value.int _ _)) _ _ _); k_dflt (refine' m_mul (by k_asm) (by k_asm) (by k_mem) (by rfl) (by omega) ?_))); intro Dw hw Fw Nw lw; (try k_lt lw); (try k_sweep))) | ((with_reducible show UnrEnd _ _ _ _ _ _ _); (rename Fr _ _ _ _ => uF); (rename News _ _ _ _ => uN); k_dflt (apply unr_off uF uN (by k_mem)); (· repeat (first | exact off_nil | (apply off_all; tbn_find) | apply off_eq | (apply off_ne; · k_ne))); refine ⟨by k_mem, ?_⟩) | walk1 | (dsimp only; walk1) | (leave1; (try dsimp only))))
    rename News _ _ _ _ => kN
    rename Fr _ _ _ _ => kF
    rw [eO_arbno (by assumption)] at kN
    exact hret _ _ _ _ kF kN (hn _ _ _ _ _ _ _ _ _ _ _ _ _ _ _ _ _ _ _ _ _ _ _ _ _ _ _ _ _ _ ⟨news_one kN, (fun p hp => by repeat (first | exact hp | refine List.Mem.tail _ ?_)), ⟨_, by k_mem⟩, by k_mem, by k_mem, ⟨_, by k_mem⟩, tbn_neAll (by tbn_find)⟩ (by k_mem) (by k_mem) (by k_mem) (by k_mem) (by k_mem) (by k_mem) (by k_mem) (by k_mem) (by k_mem) (by k_mem) (tbn_neAll (by tbn_find)) (tbn_neAll (by tbn_find)) (by k_ne) (by k_ne) (by first | assumption | (simp only [List.length_append, List.length_cons, List.length_nil, List.length_set] at *; omega)) (by first | assumption | (simp only [List.length_append, List.length_cons, List.length_nil, List.length_set] at *; omega)) (by first | assumption | (simp only [List.length_append, List.length_cons, List.length_nil, List.length_set] at *; omega)) (by first | assumption | (simp only [List.length_append, List.length_cons, List.length_nil, List.length_set] at *; omega)) )
  · obtain ⟨kd, wd, v1, v2, t2, hk, hv, hn⟩ := K
    rename News _ _ _ _ => bN
    replace bN := news_lits3 [(v, tupO [sv kd t2, v1, v2])] bN (List.forall_mem_cons.mpr ⟨hv, List.forall_mem_nil _⟩)
    simp only [List.cons_append, List.nil_append] at bN
    have b_v : ol ≠ v := Ne.symm (hT _ hv _ (.head _))
    rcases hk with ⟨rfl, rfl⟩ | ⟨rfl, rfl⟩
    all_goals
      repeat' ((fail_if_success (with_reducible show wpAny _ _ (call (Value.ref 58) _) _ _ _)); (fail_if_success (with_reducible show Q_ _ _)); (first | (k_unfold; (try dsimp only)) | (k_end; wrow_close) | (with_reducible first | ((show wpAny _ _ (call (Value.builtin _) _) _ _ _); k_here; (first | ((show wpAny _ _ (call (Value.builtin "len") _) _ _ _); (first | k_dflt (refine' m_lenL (by k_asm) (by k_mem) (by first | (show _ = (0 : Int); rfl) | (show _ = (1 : Int); rfl) | (show _ = (2 : Int); rfl) | (show _ = (3 : Int); rfl) | (show _ = (4 : Int); rfl)) (by decide) ?_) | k_dflt (refine' m_len (by k_asm) (by k_mem) (by tb_rel) ?_))) | ((first | ((show wpAny _ _ (call (Value.builtin "list.append") _) _ _ _); k_dflt (refine' m_append (by k_asm) (by k_asm) (by first | assumption | k_upd) (by tb_rel) ?_)) | ((show wpAny _ _ (call (Value.builtin "list.extend") _) _ _ _); (first | k_dflt (refine' m_extend_nil (by k_asm) (by k_asm) (by k_mem) (by k_upd) (by tb_rel) ?_) | k_dflt (refine' m_extend (by k_asm) (by k_asm) (by k_mem) (by kl_some) (by k_upd) (by tb_rel) (by tb_rel) ?_))) | ((show wpAny _ _ (call (Value.builtin "list.pop") _) _ _ _); k_dflt (refine' m_pop (by k_asm) (by k_asm) (by k_upd) (by tb_rel) ?_))); intro hw Fw Nw; (try simp only [List.cons_append, List.nil_append] at Nw); (try k_sweep)))) | ((show wpAny _ _ (setItem (Value.ref _) (Value.int _ _) _) _ _ _); k_here; k_dflt (refine' m_set (by k_asm) (by k_asm) (by k_upd) (by tb_rel) (by tb_rel) (by tb_rel) ?_); intro hw Fw Nw; (try simp only [List.cons_append, List.nil_append] at Nw); (try k_sweep)) | ((show WhlIf _ _ _); (first | (refine WhlIf.yes (decide_eq_true (by tb_rel)) ?_) | (refine WhlIf.no (decide_eq_false (by tb_rel)) ?_))) | ((first | show wpAny _ _ (exec (Stmt.For (PySem.Expr.Name _ _) (PySem.Expr.Name _ _) _ _ _) _) _ _ _ | show wpAny _ _ (exec (Stmt.For (PySem.Expr.Name _ _) (PySem.Expr.Subscript _ _ _) _ _ _) _) _ _ _); k_here; (rename Fr _ _ _ _ => Fw'); (with_unfolding_all refine' For_invVF Fw' (by exact rfl) (by exact rfl) ?_); k_whole) | ((show wpAny _ _ (pyIter (Value.ref _)) _ _ _); k_here; (rename Fr _ _ _ _ => Fw'); (rename News _ _ _ _ => Nw'); (first | (with_unfolding_all refine iter_listUnr (vs := [_]) (by rfl) Fw' Nw' (by k_mem) (by rfl) (by rfl) ?_) | (with_unfolding_all refine iter_listUnr (vs := [_, _]) (by rfl) Fw' Nw' (by k_mem) (by rfl) (by rfl) ?_)); clear Fw'; intro iw lw; (try k_lt lw)) | ((show wpAny _ _ (subscriptTail _ _ (Value.ref _) (Value.int _ _)) _ _ _); k_here; (first | k_dflt (refine' m_getT (by k_asm) (by k_mem) (by decide) (by first | decide | tb_rel) (by rfl) ?_ (by with_unfolding_all rfl)) | k_dflt (refine' m_get (by k_asm) (by k_mem) (by first | decide | tb_rel) (by first | decide | tb_rel) (by first | assumption | rfl) ?_ (by with_unfolding_all rfl) (by intro _; with_unfolding_all rfl)))) | ((show wpAny _ _ (callWith _ (Prod.fst (Value.builtin _, _)) (Prod.snd (_, _ :: _)) (backTo _ (starEach (_ :: _) _)) []) _ _ _); refine callWith_method1 ?_ (by with_unfolding_all rfl) (by with_unfolding_all rfl)) | ((show wpAny _ _ (compareOp _ (Value.str _ _) _) _ _ _); k_here; (first | ((show wpAny _ _ (compareOp CmpOp.Eq (Value.str _ _) (Value.str _ _)) _ _ _); refine m_eqS (by assumption) ?_) | ((show wpAny _ _ (compareOp CmpOp.In (Value.str _ _) (Value.ref _)) _ _ _); (first | k_dflt (refine' m_inT (by k_asm) (by k_mem) (by assumption) ?_) | k_dflt (refine' m_inTop (by k_asm) (by k_asm) (by k_is) (by kde_strs) (by first | assumption | rfl | decide) ?_))))) | ((show wpAny _ _ (binaryOp _ (Value.ref _) _) _ _ _); k_here; (first | ((show wpAny _ _ (binaryOp Operator.Add (Value.ref _) (Value.ref _)) _ _ _); k_dflt (refine' m_add (by k_asm) (by k_asm) (by k_mem) (by k_mem) (by tb_rel) (by tb_rel) ?_)) | ((show wpAny _ _ (binaryOp Operator.Mult (Value.ref _) (Value.int _ _)) _ _ _); k_dflt (refine' m_mul (by k_asm) (by k_asm) (by k_mem) (by rfl) (by omega) ?_))); intro Dw hw Fw Nw lw; (try k_lt lw); (try k_sweep))) | ((with_reducible show UnrEnd _ _ _ _ _ _ _); (rename Fr _ _ _ _ => uF); (rename News _ _ _ _ => uN); k_dflt (apply unr_off uF uN (by k_mem)); (· repeat (first | exact off_nil | (apply off_all; tbn_find) | apply off_eq | (apply off_ne; · k_ne))); refine ⟨by k_mem, ?_⟩) | walk1 | (dsimp only; walk1) | (leave1; (try dsimp only))))
      rename News _ _ _ _ => eN
      rename Fr _ _ _ _ => eF
      refine emit_c _ 305 16 (by exact Nat.le_of_ble_eq_true rfl) (by exact Nat.le_of_ble_eq_true rfl) x dx ol hs tk0 _ _ _ _ _ (by k_mem) (by k_mem) (by k_upd) w1 w2 (by tb_rel) _ _ _ _ _ _ _ _ _ _ _ _ _ _ _ _ _ _ (by assumption) eF (by k_asm) eN (by assumption) (by rfl) ?_
      clear eF eN
      rintro _ _ h' tk' F' N' ⟨rfl, ie1, te1, rfl, hie1⟩
      (try dsimp only)
      repeat' ((fail_if_success (with_reducible show Q_ _ _)); (first | (k_unfold; (try dsimp only)) | (k_end; wrow_close) | (with_reducible first | ((show wpAny _ _ (call (Value.builtin _) _) _ _ _); k_here; (first | ((show wpAny _ _ (call (Value.builtin "len") _) _ _ _); (first | k_dflt (refine' m_lenL (by k_asm) (by k_mem) (by first | (show _ = (0 : Int); rfl) | (show _ = (1 : Int); rfl) | (show _ = (2 : Int); rfl) | (show _ = (3 : Int); rfl) | (show _ = (4 : Int); rfl)) (by decide) ?_) | k_dflt (refine' m_len (by k_asm) (by k_mem) (by tb_rel) ?_))) | ((first | ((show wpAny _ _ (call (Value.builtin "list.append") _) _ _ _); k_dflt (refine' m_append (by k_asm) (by k_asm) (by first | assumption | k_upd) (by tb_rel) ?_)) | ((show wpAny _ _ (call (Value.builtin "list.extend") _) _ _ _); (first | k_dflt (refine' m_extend_nil (by k_asm) (by k_asm) (by k_mem) (by k_upd) (by tb_rel) ?_) | k_dflt (refine' m_extend (by k_asm) (by k_asm) (by k_mem) (by kl_some) (by k_upd) (by tb_rel) (by tb_rel) ?_))) | ((show wpAny _ _ (call (Value.builtin "list.pop") _) _ _ _); k_dflt (refine' m_pop (by k_asm) (by k_asm) (by k_upd) (by tb_rel) ?_))); intro hw Fw Nw; (try simp only [List.cons_append, List.nil_append] at Nw); (try k_sweep)))) | ((show wpAny _ _ (setItem (Value.ref _) (Value.int _ _) _) _ _ _); k_here; k_dflt (refine' m_set (by k_asm) (by k_asm) (by k_upd) (by tb_rel) (by tb_rel) (by tb_rel) ?_); intro hw Fw Nw; (try simp only [List.cons_append, List.nil_append] at Nw); (try k_sweep)) | ((show WhlIf _ _ _); (first | (refine WhlIf.yes (decide_eq_true (by tb_rel)) ?_) | (refine WhlIf.no (decide_eq_false (by tb_rel)) ?_))) | ((first | show wpAny _ _ (exec (Stmt.For (PySem.Expr.Name _ _) (PySem.Expr.Name _ _) _ _ _) _) _ _ _ | show wpAny _ _ (exec (Stmt.For (PySem.Expr.Name _ _) (PySem.Expr.Subscript _ _ _) _ _ _) _) _ _ _); k_here; (rename Fr _ _ _ _ => Fw'); (with_unfolding_all refine' For_invVF Fw' (by exact rfl) (by exact rfl) ?_); k_whole) | ((show wpAny _ _ (pyIter (Value.ref _)) _ _ _); k_here; (rename Fr _ _ _ _ => Fw'); (rename News _ _ _ _ => Nw'); (first | (with_unfolding_all refine iter_listUnr (vs := [_]) (by rfl) Fw' Nw' (by k_mem) (by rfl) (by rfl) ?_) | (with_unfolding_all refine iter_listUnr (vs := [_, _]) (by rfl) Fw' Nw' (by k_mem) (by rfl) (by rfl) ?_)); clear Fw'; intro iw lw; (try k_lt lw)) | ((show wpAny _ _ (subscriptTail _ _ (Value.ref _) (Value.int _ _)) _ _ _); k_here; (first | k_dflt (refine' m_getT (by k_asm) (by k_mem) (by decide) (by first | decide | tb_rel) (by rfl) ?_ (by with_unfolding_all rfl)) | k_dflt (refine' m_get (by k_asm) (by k_mem) (by first | decide | tb_rel) (by first | decide | tb_rel) (by first | assumption | rfl) ?_ (by with_unfolding_all rfl) (by intro _; with_unfolding_all rfl)))) | ((show wpAny _ _ (callWith _ (Prod.fst (Value.builtin _, _)) (Prod.snd (_, _ :: _)) (backTo _ (starEach (_ :: _) _)) []) _ _ _); refine callWith_method1 ?_ (by with_unfolding_all rfl) (by with_unfolding_all rfl)) | ((show wpAny _ _ (compareOp _ (Value.str _ _) _) _ _ _); k_here; (first | ((show wpAny _ _ (compareOp CmpOp.Eq (Value.str _ _) (Value.str _ _)) _ _ _); refine m_eqS (by assumption) ?_) | ((show wpAny _ _ (compareOp CmpOp.In (Value.str _ _) (Value.ref _)) _ _ _); (first | k_dflt (refine' m_inT (by k_asm) (by k_mem) (by assumption) ?_) | k_dflt (refine' m_inTop (by k_asm) (by k_asm) (by k_is) (by kde_strs) (by first | assumption | rfl | decide) ?_))))) | ((show wpAny _ _ (binaryOp _ (Value.ref _) _) _ _ _); k_here; (first | ((show wpAny _ _ (binaryOp Operator.Add (Value.ref _) (Value.ref _)) _ _ _); k_dflt (refine' m_add (by k_asm) (by k_asm) (by k_mem) (by k_mem) (by tb_rel) (by tb_rel) ?_)) | ((show wpAny _ _ (binaryOp Operator.Mult (Value.ref _) (Value.int _ _)) _ _ _); k_dflt (refine' m_mul (by k_asm) (by k_asm) (by k_mem) (by rfl) (by omega) ?_))); intro Dw hw Fw Nw lw; (try k_lt lw); (try k_sweep))) | ((with_reducible show UnrEnd _ _ _ _ _ _ _); (rename Fr _ _ _ _ => uF); (rename News _ _ _ _ => uN); k_dflt (apply unr_off uF uN (by k_mem)); (· repeat (first | exact off_nil | (apply off_all; tbn_find) | apply off_eq | (apply off_ne; · k_ne))); refine ⟨by k_mem, ?_⟩) | walk1 | (dsimp only; walk1) | (leave1; (try dsimp only))))
      rename News _ _ _ _ => kN
      rename Fr _ _ _ _ => kF
      exact hret _ _ _ _ kF kN (hn _ _ _ _ _ _ _ _ _ _ ⟨news_one kN, (fun p hp => by repeat (first | exact hp | refine List.Mem.tail _ ?_)), ⟨_, by k_mem⟩, by k_mem, by k_mem, ⟨_, by k_mem⟩, tbn_neAll (by tbn_find)⟩ (by k_mem) (by k_mem) (by k_mem) (by k_mem))
  · obtain ⟨c, q, v1, v2, i, t2, t3, t4, t5, hv, hc, hq, hn⟩ := K
    rename News _ _ _ _ => bN
    replace bN := news_lits3 [(v, tupO [sv "alt" t2, .ref c, .ref q]), (c, tupO [sv "cat" t3, v1, v2]), (q, tupO [sv "pos" t4, .int i t5])] bN (List.forall_mem_cons.mpr ⟨hv, List.forall_mem_cons.mpr ⟨hc, List.forall_mem_cons.mpr ⟨hq, List.forall_mem_nil _⟩⟩⟩)
    simp only [List.cons_append, List.nil_append] at bN
    have b_v : ol ≠ v := Ne.symm (hT _ hv _ (.head _))
    have b_c : ol ≠ c := Ne.symm (hT _ hc _ (.head _))
    have b_q : ol ≠ q := Ne.symm (hT _ hq _ (.head _))
    repeat' ((fail_if_success (with_reducible show wpAny _ _ (call (Value.ref 23) _) _ _ _)); (first | (k_unfold; (try dsimp only)) | (k_end; wrow_close) | (with_reducible first | ((show wpAny _ _ (call (Value.builtin _) _) _ _ _); k_here; (first | ((show wpAny _ _ (call (Value.builtin "len") _) _ _ _); (first | k_dflt (refine' m_lenL (by k_asm) (by k_mem) (by first | (show _ = (0 : Int); rfl) | (show _ = (1 : Int); rfl) | (show _ = (2 : Int); rfl) | (show _ = (3 : Int); rfl) | (show _ = (4 : Int); rfl)) (by decide) ?_) | k_dflt (refine' m_len (by k_asm) (by k_mem) (by tb_rel) ?_))) | ((first | ((show wpAny _ _ (call (Value.builtin "list.append") _) _ _ _); k_dflt (refine' m_append (by k_asm) (by k_asm) (by first | assumption | k_upd) (by tb_rel) ?_)) | ((show wpAny _ _ (call (Value.builtin "list.extend") _) _ _ _); (first | k_dflt (refine' m_extend_nil (by k_asm) (by k_asm) (by k_mem) (by k_upd) (by tb_rel) ?_) | k_dflt (refine' m_extend (by k_asm) (by k_asm) (by k_mem) (by kl_some) (by k_upd) (by tb_rel) (by tb_rel) ?_))) | ((show wpAny _ _ (call (Value.builtin "list.pop") _) _ _ _); k_dflt (refine' m_pop (by k_asm) (by k_asm) (by k_upd) (by tb_rel) ?_))); intro hw Fw Nw; (try simp only [List.cons_append, List.nil_append] at Nw); (try k_sweep)))) | ((show wpAny _ _ (setItem (Value.ref _) (Value.int _ _) _) _ _ _); k_here; k_dflt (refine' m_set (by k_asm) (by k_asm) (by k_upd) (by tb_rel) (by tb_rel) (by tb_rel) ?_); intro hw Fw Nw; (try simp only [List.cons_append, List.nil_append] at Nw); (try k_sweep)) | ((show WhlIf _ _ _); (first | (refine WhlIf.yes (decide_eq_true (by tb_rel)) ?_) | (refine WhlIf.no (decide_eq_false (by tb_rel)) ?_))) | ((first | show wpAny _ _ (exec (Stmt.For (PySem.Expr.Name _ _) (PySem.Expr.Name _ _) _ _ _) _) _ _ _ | show wpAny _ _ (exec (Stmt.For (PySem.Expr.Name _ _) (PySem.Expr.Subscript _ _ _) _ _ _) _) _ _ _); k_here; (rename Fr _ _ _ _ => Fw'); (with_unfolding_all refine' For_invVF Fw' (by exact rfl) (by exact rfl) ?_); k_whole) | ((show wpAny _ _ (pyIter (Value.ref _)) _ _ _); k_here; (rename Fr _ _ _ _ => Fw'); (rename News _ _ _ _ => Nw'); (first | (with_unfolding_all refine iter_listUnr (vs := [_]) (by rfl) Fw' Nw' (by k_mem) (by rfl) (by rfl) ?_) | (with_unfolding_all refine iter_listUnr (vs := [_, _]) (by rfl) Fw' Nw' (by k_mem) (by rfl) (by rfl) ?_)); clear Fw'; intro iw lw; (try k_lt lw)) | ((show wpAny _ _ (subscriptTail _ _ (Value.ref _) (Value.int _ _)) _ _ _); k_here; (first | k_dflt (refine' m_getT (by k_asm) (by k_mem) (by decide) (by first | decide | tb_rel) (by rfl) ?_ (by with_unfolding_all rfl)) | k_dflt (refine' m_get (by k_asm) (by k_mem) (by first | decide | tb_rel) (by first | decide | tb_rel) (by first | assumption | rfl) ?_ (by with_unfolding_all rfl) (by intro _; with_unfolding_all rfl)))) | ((show wpAny _ _ (callWith _ (Prod.fst (Value.builtin _, _)) (Prod.snd (_, _ :: _)) (backTo _ (starEach (_ :: _) _)) []) _ _ _); refine callWith_method1 ?_ (by with_unfolding_all rfl) (by with_unfolding_all rfl)) | ((show wpAny _ _ (compareOp _ (Value.str _ _) _) _ _ _); k_here; (first | ((show wpAny _ _ (compareOp CmpOp.Eq (Value.str _ _) (Value.str _ _)) _ _ _); refine m_eqS (by assumption) ?_) | ((show wpAny _ _ (compareOp CmpOp.In (Value.str _ _) (Value.ref _)) _ _ _); (first | k_dflt (refine' m_inT (by k_asm) (by k_mem) (by assumption) ?_) | k_dflt (refine' m_inTop (by k_asm) (by k_asm) (by k_is) (by kde_strs) (by first | assumption | rfl | decide) ?_))))) | ((show wpAny _ _ (binaryOp _ (Value.ref _) _) _ _ _); k_here; (first | ((show wpAny _ _ (binaryOp Operator.Add (Value.ref _) (Value.ref _)) _ _ _); k_dflt (refine' m_add (by k_asm) (by k_asm) (by k_mem) (by k_mem) (by tb_rel) (by tb_rel) ?_)) | ((show wpAny _ _ (binaryOp Operator.Mult (Value.ref _) (Value.int _ _)) _ _ _); k_dflt (refine' m_mul (by k_asm) (by k_asm) (by k_mem) (by rfl) (by omega) ?_))); intro Dw hw Fw Nw lw; (try k_lt lw); (try k_sweep))) | ((with_reducible show UnrEnd _ _ _ _ _ _ _); (rename Fr _ _ _ _ => uF); (rename News _ _ _ _ => uN); k_dflt (apply unr_off uF uN (by k_mem)); (· repeat (first | exact off_nil | (apply off_all; tbn_find) | apply off_eq | (apply off_ne; · k_ne))); refine ⟨by k_mem, ?_⟩) | walk1 | (dsimp only; walk1) | (leave1; (try dsimp only))))
    rename News _ _ _ _ => rN
    rename Fr _ _ _ _ => rF
    refine crow _ 305 16 (by exact Nat.le_of_ble_eq_true rfl) (by exact Nat.le_of_ble_eq_true rfl) v c q _ _ _ _ _ _ _ _ _ _ (by k_mem) (by k_mem) (by k_mem) (by decide) (by decide) _ _ _ _ _ _ _ _ _ _ _ _ _ _ _ _ _ _ (by assumption) rF (by k_asm) rN (by assumption) (by rfl) ?_
    clear rF rN
    rintro _ _ h' tk' F' N' ⟨ra, rn, rfl, rfl, l1⟩
    k_lt l1
    (try dsimp only)
    repeat' ((fail_if_success (with_reducible show Q_ _ _)); (first | (k_unfold; (try dsimp only)) | (k_end; wrow_close) | (with_reducible first | ((show wpAny _ _ (call (Value.builtin _) _) _ _ _); k_here; (first | ((show wpAny _ _ (call (Value.builtin "len") _) _ _ _); (first | k_dflt (refine' m_lenL (by k_asm) (by k_mem) (by first | (show _ = (0 : Int); rfl) | (show _ = (1 : Int); rfl) | (show _ = (2 : Int); rfl) | (show _ = (3 : Int); rfl) | (show _ = (4 : Int); rfl)) (by decide) ?_) | k_dflt (refine' m_len (by k_asm) (by k_mem) (by tb_rel) ?_))) | ((first | ((show wpAny _ _ (call (Value.builtin "list.append") _) _ _ _); k_dflt (refine' m_append (by k_asm) (by k_asm) (by first | assumption | k_upd) (by tb_rel) ?_)) | ((show wpAny _ _ (call (Value.builtin "list.extend") _) _ _ _); (first | k_dflt (refine' m_extend_nil (by k_asm) (by k_asm) (by k_mem) (by k_upd) (by tb_rel) ?_) | k_dflt (refine' m_extend (by k_asm) (by k_asm) (by k_mem) (by kl_some) (by k_upd) (by tb_rel) (by tb_rel) ?_))) | ((show wpAny _ _ (call (Value.builtin "list.pop") _) _ _ _); k_dflt (refine' m_pop (by k_asm) (by k_asm) (by k_upd) (by tb_rel) ?_))); intro hw Fw Nw; (try simp only [List.cons_append, List.nil_append] at Nw); (try k_sweep)))) | ((show wpAny _ _ (setItem (Value.ref _) (Value.int _ _) _) _ _ _); k_here; k_dflt (refine' m_set (by k_asm) (by k_asm) (by k_upd) (by tb_rel) (by tb_rel) (by tb_rel) ?_); intro hw Fw Nw; (try simp only [List.cons_append, List.nil_append] at Nw); (try k_sweep)) | ((show WhlIf _ _ _); (first | (refine WhlIf.yes (decide_eq_true (by tb_rel)) ?_) | (refine WhlIf.no (decide_eq_false (by tb_rel)) ?_))) | ((first | show wpAny _ _ (exec (Stmt.For (PySem.Expr.Name _ _) (PySem.Expr.Name _ _) _ _ _) _) _ _ _ | show wpAny _ _ (exec (Stmt.For (PySem.Expr.Name _ _) (PySem.Expr.Subscript _ _ _) _ _ _) _) _ _ _); k_here; (rename Fr _ _ _ _ => Fw'); (with_unfolding_all refine' For_invVF Fw' (by exact rfl) (by exact rfl) ?_); k_whole) | ((show wpAny _ _ (pyIter (Value.ref _)) _ _ _); k_here; (rename Fr _ _ _ _ => Fw'); (rename News _ _ _ _ => Nw'); (first | (with_unfolding_all refine iter_listUnr (vs := [_]) (by rfl) Fw' Nw' (by k_mem) (by rfl) (by rfl) ?_) | (with_unfolding_all refine iter_listUnr (vs := [_, _]) (by rfl) Fw' Nw' (by k_mem) (by rfl) (by rfl) ?_)); clear Fw'; intro iw lw; (try k_lt lw)) | ((show wpAny _ _ (subscriptTail _ _ (Value.ref _) (Value.int _ _)) _ _ _); k_here; (first | k_dflt (refine' m_getT (by k_asm) (by k_mem) (by decide) (by first | decide | tb_rel) (by rfl) ?_ (by with_unfolding_all rfl)) | k_dflt (refine' m_get (by k_asm) (by k_mem) (by first | decide | tb_rel) (by first | decide | tb_rel) (by first | assumption | rfl) ?_ (by with_unfolding_all rfl) (by intro _; with_unfolding_all rfl)))) | ((show wpAny _ _ (callWith _ (Prod.fst (Value.builtin _, _)) (Prod.snd (_, _ :: _)) (backTo _ (starEach (_ :: _) _)) []) _ _ _); refine callWith_method1 ?_ (by with_unfolding_all rfl) (by with_unfolding_all rfl)) | ((show wpAny _ _ (compareOp _ (Value.str _ _) _) _ _ _); k_here; (first | ((show wpAny _ _ (compareOp CmpOp.Eq (Value.str _ _) (Value.str _ _)) _ _ _); refine m_eqS (by assumption) ?_) | ((show wpAny _ _ (compareOp CmpOp.In (Value.str _ _) (Value.ref _)) _ _ _); (first | k_dflt (refine' m_inT (by k_asm) (by k_mem) (by assumption) ?_) | k_dflt (refine' m_inTop (by k_asm) (by k_asm) (by k_is) (by kde_strs) (by first | assumption | rfl | decide) ?_))))) | ((show wpAny _ _ (binaryOp _ (Value.ref _) _) _ _ _); k_here; (first | ((show wpAny _ _ (binaryOp Operator.Add (Value.ref _) (Value.ref _)) _ _ _); k_dflt (refine' m_add (by k_asm) (by k_asm) (by k_mem) (by k_mem) (by tb_rel) (by tb_rel) ?_)) | ((show wpAny _ _ (binaryOp Operator.Mult (Value.ref _) (Value.int _ _)) _ _ _); k_dflt (refine' m_mul (by k_asm) (by k_asm) (by k_mem) (by rfl) (by omega) ?_))); intro Dw hw Fw Nw lw; (try k_lt lw); (try k_sweep))) | ((with_reducible show UnrEnd _ _ _ _ _ _ _); (rename Fr _ _ _ _ => uF); (rename News _ _ _ _ => uN); k_dflt (apply unr_off uF uN (by k_mem)); (· repeat (first | exact off_nil | (apply off_all; tbn_find) | apply off_eq | (apply off_ne; · k_ne))); refine ⟨by k_mem, ?_⟩) | walk1 | (dsimp only; walk1) | (leave1; (try dsimp only))))
    rename News _ _ _ _ => kN
    rename Fr _ _ _ _ => kF
    exact hret _ _ _ _ kF kN (hn _ _ _ _ _ _ _ _ _ _ _ _ _ _ _ _ _ ⟨news_one kN, (fun p hp => by repeat (first | exact hp | refine List.Mem.tail _ ?_)), ⟨_, by k_mem⟩, by k_mem, by k_mem, ⟨_, by k_mem⟩, tbn_neAll (by tbn_find)⟩ (by k_mem) (by k_mem) (by k_mem) (by k_mem) (by k_mem) (by k_mem) (by k_mem) (tbn_neAll (by tbn_find)) (tbn_neAll (by tbn_find)) (by k_ne) (by k_ne) (by k_ne))
  · obtain ⟨c, q, ks, rest, i, t2, t3, t4, t5, hk1, hk2, hv, hc, hq, hn⟩ := K
    rename News _ _ _ _ => bN
    replace bN := news_lits3 [(v, tupO [sv "cat" t2, .ref c, .ref q]), (c, tupO (.str ks t3 :: rest)), (q, tupO [sv "pos" t4, .int i t5])] bN (List.forall_mem_cons.mpr ⟨hv, List.forall_mem_cons.mpr ⟨hc, List.forall_mem_cons.mpr ⟨hq, List.forall_mem_nil _⟩⟩⟩)
    simp only [List.cons_append, List.nil_append] at bN
    have b_v : ol ≠ v := Ne.symm (hT _ hv _ (.head _))
    have b_c : ol ≠ c := Ne.symm (hT _ hc _ (.head _))
    have b_q : ol ≠ q := Ne.symm (hT _ hq _ (.head _))
    repeat' ((fail_if_success (with_reducible show wpAny _ _ (eval (PySem.Expr.ListComp _ _ _ _) _) _ _ _)); (first | (k_unfold; (try dsimp only)) | (k_end; wrow_close) | (with_reducible first | ((show wpAny _ _ (call (Value.builtin _) _) _ _ _); k_here; (first | ((show wpAny _ _ (call (Value.builtin "len") _) _ _ _); (first | k_dflt (refine' m_lenL (by k_asm) (by k_mem) (by first | (show _ = (0 : Int); rfl) | (show _ = (1 : Int); rfl) | (show _ = (2 : Int); rfl) | (show _ = (3 : Int); rfl) | (show _ = (4 : Int); rfl)) (by decide) ?_) | k_dflt (refine' m_len (by k_asm) (by k_mem) (by tb_rel) ?_))) | ((first | ((show wpAny _ _ (call (Value.builtin "list.append") _) _ _ _); k_dflt (refine' m_append (by k_asm) (by k_asm) (by first | assumption | k_upd) (by tb_rel) ?_)) | ((show wpAny _ _ (call (Value.builtin "list.extend") _) _ _ _); (first | k_dflt (refine' m_extend_nil (by k_asm) (by k_asm) (by k_mem) (by k_upd) (by tb_rel) ?_) | k_dflt (refine' m_extend (by k_asm) (by k_asm) (by k_mem) (by kl_some) (by k_upd) (by tb_rel) (by tb_rel) ?_))) | ((show wpAny _ _ (call (Value.builtin "list.pop") _) _ _ _); k_dflt (refine' m_pop (by k_asm) (by k_asm) (by k_upd) (by tb_rel) ?_))); intro hw Fw Nw; (try simp only [List.cons_append, List.nil_append] at Nw); (try k_sweep)))) | ((show wpAny _ _ (setItem (Value.ref _) (Value.int _ _) _) _ _ _); k_here; k_dflt (refine' m_set (by k_asm) (by k_asm) (by k_upd) (by tb_rel) (by tb_rel) (by tb_rel) ?_); intro hw Fw Nw; (try simp only [List.cons_append, List.nil_append] at Nw); (try k_sweep)) | ((show WhlIf _ _ _); (first | (refine WhlIf.yes (decide_eq_true (by tb_rel)) ?_) | (refine WhlIf.no (decide_eq_false (by tb_rel)) ?_))) | ((first | show wpAny _ _ (exec (Stmt.For (PySem.Expr.Name _ _) (PySem.Expr.Name _ _) _ _ _) _) _ _ _ | show wpAny _ _ (exec (Stmt.For (PySem.Expr.Name _ _) (PySem.Expr.Subscript _ _ _) _ _ _) _) _ _ _); k_here; (rename Fr _ _ _ _ => Fw'); (with_unfolding_all refine' For_invVF Fw' (by exact rfl) (by exact rfl) ?_); k_whole) | ((show wpAny _ _ (pyIter (Value.ref _)) _ _ _); k_here; (rename Fr _ _ _ _ => Fw'); (rename News _ _ _ _ => Nw'); (first | (with_unfolding_all refine iter_listUnr (vs := [_]) (by rfl) Fw' Nw' (by k_mem) (by rfl) (by rfl) ?_) | (with_unfolding_all refine iter_listUnr (vs := [_, _]) (by rfl) Fw' Nw' (by k_mem) (by rfl) (by rfl) ?_)); clear Fw'; intro iw lw; (try k_lt lw)) | ((show wpAny _ _ (subscriptTail _ _ (Value.ref _) (Value.int _ _)) _ _ _); k_here; (first | k_dflt (refine' m_getT (by k_asm) (by k_mem) (by decide) (by first | decide | tb_rel) (by rfl) ?_ (by with_unfolding_all rfl)) | k_dflt (refine' m_get (by k_asm) (by k_mem) (by first | decide | tb_rel) (by first | decide | tb_rel) (by first | assumption | rfl) ?_ (by with_unfolding_all rfl) (by intro _; with_unfolding_all rfl)))) | ((show wpAny _ _ (callWith _ (Prod.fst (Value.builtin _, _)) (Prod.snd (_, _ :: _)) (backTo _ (starEach (_ :: _) _)) []) _ _ _); refine callWith_method1 ?_ (by with_unfolding_all rfl) (by with_unfolding_all rfl)) | ((show wpAny _ _ (compareOp _ (Value.str _ _) _) _ _ _); k_here; (first | ((show wpAny _ _ (compareOp CmpOp.Eq (Value.str _ _) (Value.str _ _)) _ _ _); refine m_eqS (by assumption) ?_) | ((show wpAny _ _ (compareOp CmpOp.In (Value.str _ _) (Value.ref _)) _ _ _); (first | k_dflt (refine' m_inT (by k_asm) (by k_mem) (by assumption) ?_) | k_dflt (refine' m_inTop (by k_asm) (by k_asm) (by k_is) (by kde_strs) (by first | assumption | rfl | decide) ?_))))) | ((show wpAny _ _ (binaryOp _ (Value.ref _) _) _ _ _); k_here; (first | ((show wpAny _ _ (binaryOp Operator.Add (Value.ref _) (Value.ref _)) _ _ _); k_dflt (refine' m_add (by k_asm) (by k_asm) (by k_mem) (by k_mem) (by tb_rel) (by tb_rel) ?_)) | ((show wpAny _ _ (binaryOp Operator.Mult (Value.ref _) (Value.int _ _)) _ _ _); k_dflt (refine' m_mul (by k_asm) (by k_asm) (by k_mem) (by rfl) (by omega) ?_))); intro Dw hw Fw Nw lw; (try k_lt lw); (try k_sweep))) | ((with_reducible show UnrEnd _ _ _ _ _ _ _); (rename Fr _ _ _ _ => uF); (rename News _ _ _ _ => uN); k_dflt (apply unr_off uF uN (by k_mem)); (· repeat (first | exact off_nil | (apply off_all; tbn_find) | apply off_eq | (apply off_ne; · k_ne))); refine ⟨by k_mem, ?_⟩) | walk1 | (dsimp only; walk1) | (leave1; (try dsimp only))))
    rename Fr _ _ _ _ => cF
    k_dflt (refine ListComp_obj (cl := []) cF (fun v o => ∃ t1, o = tupO [sv "put" t1, v]) ?hh ?hclos ?hcell ?hkind ?hnames ?hx ?h ?hs)
    case hh => exact rfl
    case hclos => with_unfolding_all rfl
    case hcell => decide
    case hkind => with_unfolding_all rfl
    case hnames => decide
    case hx => with_unfolding_all rfl
    case hs => intro _; with_unfolding_all rfl
    case h =>
      repeat' ((fail_if_success (with_reducible show wpAny _ _ (call (Value.ref 23) _) _ _ _)); (first | (k_unfold; (try dsimp only)) | (k_end; wrow_close) | (with_reducible first | ((show wpAny _ _ (call (Value.builtin _) _) _ _ _); k_here; (first | ((show wpAny _ _ (call (Value.builtin "len") _) _ _ _); (first | k_dflt (refine' m_lenL (by k_asm) (by k_mem) (by first | (show _ = (0 : Int); rfl) | (show _ = (1 : Int); rfl) | (show _ = (2 : Int); rfl) | (show _ = (3 : Int); rfl) | (show _ = (4 : Int); rfl)) (by decide) ?_) | k_dflt (refine' m_len (by k_asm) (by k_mem) (by tb_rel) ?_))) | ((first | ((show wpAny _ _ (call (Value.builtin "list.append") _) _ _ _); k_dflt (refine' m_append (by k_asm) (by k_asm) (by first | assumption | k_upd) (by tb_rel) ?_)) | ((show wpAny _ _ (call (Value.builtin "list.extend") _) _ _ _); (first | k_dflt (refine' m_extend_nil (by k_asm) (by k_asm) (by k_mem) (by k_upd) (by tb_rel) ?_) | k_dflt (refine' m_extend (by k_asm) (by k_asm) (by k_mem) (by kl_some) (by k_upd) (by tb_rel) (by tb_rel) ?_))) | ((show wpAny _ _ (call (Value.builtin "list.pop") _) _ _ _); k_dflt (refine' m_pop (by k_asm) (by k_asm) (by k_upd) (by tb_rel) ?_))); intro hw Fw Nw; (try simp only [List.cons_append, List.nil_append] at Nw); (try k_sweep)))) | ((show wpAny _ _ (setItem (Value.ref _) (Value.int _ _) _) _ _ _); k_here; k_dflt (refine' m_set (by k_asm) (by k_asm) (by k_upd) (by tb_rel) (by tb_rel) (by tb_rel) ?_); intro hw Fw Nw; (try simp only [List.cons_append, List.nil_append] at Nw); (try k_sweep)) | ((show WhlIf _ _ _); (first | (refine WhlIf.yes (decide_eq_true (by tb_rel)) ?_) | (refine WhlIf.no (decide_eq_false (by tb_rel)) ?_))) | ((first | show wpAny _ _ (exec (Stmt.For (PySem.Expr.Name _ _) (PySem.Expr.Name _ _) _ _ _) _) _ _ _ | show wpAny _ _ (exec (Stmt.For (PySem.Expr.Name _ _) (PySem.Expr.Subscript _ _ _) _ _ _) _) _ _ _); k_here; (rename Fr _ _ _ _ => Fw'); (with_unfolding_all refine' For_invVF Fw' (by exact rfl) (by exact rfl) ?_); k_whole) | ((show wpAny _ _ (pyIter (Value.ref _)) _ _ _); k_here; (rename Fr _ _ _ _ => Fw'); (rename News _ _ _ _ => Nw'); (first | (with_unfolding_all refine iter_listUnr (vs := [_]) (by rfl) Fw' Nw' (by k_mem) (by rfl) (by rfl) ?_) | (with_unfolding_all refine iter_listUnr (vs := [_, _]) (by rfl) Fw' Nw' (by k_mem) (by rfl) (by rfl) ?_)); clear Fw'; intro iw lw; (try k_lt lw)) | ((show wpAny _ _ (subscriptTail _ _ (Value.ref _) (Value.int _ _)) _ _ _); k_here; (first | k_dflt (refine' m_getT (by k_asm) (by k_mem) (by decide) (by first | decide | tb_rel) (by rfl) ?_ (by with_unfolding_all rfl)) | k_dflt (refine' m_get (by k_asm) (by k_mem) (by first | decide | tb_rel) (by first | decide | tb_rel) (by first | assumption | rfl) ?_ (by with_unfolding_all rfl) (by intro _; with_unfolding_all rfl)))) | ((show wpAny _ _ (callWith _ (Prod.fst (Value.builtin _, _)) (Prod.snd (_, _ :: _)) (backTo _ (starEach (_ :: _) _)) []) _ _ _); refine callWith_method1 ?_ (by with_unfolding_all rfl) (by with_unfolding_all rfl)) | ((show wpAny _ _ (compareOp _ (Value.str _ _) _) _ _ _); k_here; (first | ((show wpAny _ _ (compareOp CmpOp.Eq (Value.str _ _) (Value.str _ _)) _ _ _); refine m_eqS (by assumption) ?_) | ((show wpAny _ _ (compareOp CmpOp.In (Value.str _ _) (Value.ref _)) _ _ _); (first | k_dflt (refine' m_inT (by k_asm) (by k_mem) (by assumption) ?_) | k_dflt (refine' m_inTop (by k_asm) (by k_asm) (by k_is) (by kde_strs) (by first | assumption | rfl | decide) ?_))))) | ((show wpAny _ _ (binaryOp _ (Value.ref _) _) _ _ _); k_here; (first | ((show wpAny _ _ (binaryOp Operator.Add (Value.ref _) (Value.ref _)) _ _ _); k_dflt (refine' m_add (by k_asm) (by k_asm) (by k_mem) (by k_mem) (by tb_rel) (by tb_rel) ?_)) | ((show wpAny _ _ (binaryOp Operator.Mult (Value.ref _) (Value.int _ _)) _ _ _); k_dflt (refine' m_mul (by k_asm) (by k_asm) (by k_mem) (by rfl) (by omega) ?_))); intro Dw hw Fw Nw lw; (try k_lt lw); (try k_sweep))) | ((with_reducible show UnrEnd _ _ _ _ _ _ _); (rename Fr _ _ _ _ => uF); (rename News _ _ _ _ => uN); k_dflt (apply unr_off uF uN (by k_mem)); (· repeat (first | exact off_nil | (apply off_all; tbn_find) | apply off_eq | (apply off_ne; · k_ne))); refine ⟨by k_mem, ?_⟩) | walk1 | (dsimp only; walk1) | (leave1; (try dsimp only))))
      rename News _ _ _ _ => rN
      rename Fr _ _ _ _ => rF
      refine crow _ 305 16 (by exact Nat.le_of_ble_eq_true rfl) (by exact Nat.le_of_ble_eq_true rfl) v c q _ _ _ _ _ _ _ _ _ _ (by k_mem) (by k_mem) (by k_mem) (hk1) (by decide) _ _ _ _ _ _ _ _ _ _ _ _ _ _ _ _ _ _ (by assumption) rF (by k_asm) rN (by assumption) (by rfl) ?_
      clear rF rN
      rintro _ _ h' tk' F' N' ⟨ra, rn, rfl, rfl, l1⟩
      k_lt l1
      (try dsimp only)
      repeat' ((fail_if_success (with_reducible show ∃ news ax vs nn, _)); (first | (k_unfold; (try dsimp only)) | (k_end; wrow_close) | (with_reducible first | ((show wpAny _ _ (call (Value.builtin _) _) _ _ _); k_here; (first | ((show wpAny _ _ (call (Value.builtin "len") _) _ _ _); (first | k_dflt (refine' m_lenL (by k_asm) (by k_mem) (by first | (show _ = (0 : Int); rfl) | (show _ = (1 : Int); rfl) | (show _ = (2 : Int); rfl) | (show _ = (3 : Int); rfl) | (show _ = (4 : Int); rfl)) (by decide) ?_) | k_dflt (refine' m_len (by k_asm) (by k_mem) (by tb_rel) ?_))) | ((first | ((show wpAny _ _ (call (Value.builtin "list.append") _) _ _ _); k_dflt (refine' m_append (by k_asm) (by k_asm) (by first | assumption | k_upd) (by tb_rel) ?_)) | ((show wpAny _ _ (call (Value.builtin "list.extend") _) _ _ _); (first | k_dflt (refine' m_extend_nil (by k_asm) (by k_asm) (by k_mem) (by k_upd) (by tb_rel) ?_) | k_dflt (refine' m_extend (by k_asm) (by k_asm) (by k_mem) (by kl_some) (by k_upd) (by tb_rel) (by tb_rel) ?_))) | ((show wpAny _ _ (call (Value.builtin "list.pop") _) _ _ _); k_dflt (refine' m_pop (by k_asm) (by k_asm) (by k_upd) (by tb_rel) ?_))); intro hw Fw Nw; (try simp only [List.cons_append, List.nil_append] at Nw); (try k_sweep)))) | ((show wpAny _ _ (setItem (Value.ref _) (Value.int _ _) _) _ _ _); k_here; k_dflt (refine' m_set (by k_asm) (by k_asm) (by k_upd) (by tb_rel) (by tb_rel) (by tb_rel) ?_); intro hw Fw Nw; (try simp only [List.cons_append, List.nil_append] at Nw); (try k_sweep)) | ((show WhlIf _ _ _); (first | (refine WhlIf.yes (decide_eq_true (by tb_rel)) ?_) | (refine WhlIf.no (decide_eq_false (by tb_rel)) ?_))) | ((first | show wpAny _ _ (exec (Stmt.For (PySem.Expr.Name _ _) (PySem.Expr.Name _ _) _ _ _) _) _ _ _ | show wpAny _ _ (exec (Stmt.For (PySem.Expr.Name _ _) (PySem.Expr.Subscript _ _ _) _ _ _) _) _ _ _); k_here; (rename Fr _ _ _ _ => Fw'); (with_unfolding_all refine' For_invVF Fw' (by exact rfl) (by exact rfl) ?_); k_whole) | ((show wpAny _ _ (pyIter (Value.ref _)) _ _ _); k_here; (rename Fr _ _ _ _ => Fw'); (rename News _ _ _ _ => Nw'); (first | (with_unfolding_all refine iter_listUnr (vs := [_]) (by rfl) Fw' Nw' (by k_mem) (by rfl) (by rfl) ?_) | (with_unfolding_all refine iter_listUnr (vs := [_, _]) (by rfl) Fw' Nw' (by k_mem) (by rfl) (by rfl) ?_)); clear Fw'; intro iw lw; (try k_lt lw)) | ((show wpAny _ _ (subscriptTail _ _ (Value.ref _) (Value.int _ _)) _ _ _); k_here; (first | k_dflt (refine' m_getT (by k_asm) (by k_mem) (by decide) (by first | decide | tb_rel) (by rfl) ?_ (by with_unfolding_all rfl)) | k_dflt (refine' m_get (by k_asm) (by k_mem) (by first | decide | tb_rel) (by first | decide | tb_rel) (by first | assumption | rfl) ?_ (by with_unfolding_all rfl) (by intro _; with_unfolding_all rfl)))) | ((show wpAny _ _ (callWith _ (Prod.fst (Value.builtin _, _)) (Prod.snd (_, _ :: _)) (backTo _ (starEach (_ :: _) _)) []) _ _ _); refine callWith_method1 ?_ (by with_unfolding_all rfl) (by with_unfolding_all rfl)) | ((show wpAny _ _ (compareOp _ (Value.str _ _) _) _ _ _); k_here; (first | ((show wpAny _ _ (compareOp CmpOp.Eq (Value.str _ _) (Value.str _ _)) _ _ _); refine m_eqS (by assumption) ?_) | ((show wpAny _ _ (compareOp CmpOp.In (Value.str _ _) (Value.ref _)) _ _ _); (first | k_dflt (refine' m_inT (by k_asm) (by k_mem) (by assumption) ?_) | k_dflt (refine' m_inTop (by k_asm) (by k_asm) (by k_is) (by kde_strs) (by first | assumption | rfl | decide) ?_))))) | ((show wpAny _ _ (binaryOp _ (Value.ref _) _) _ _ _); k_here; (first | ((show wpAny _ _ (binaryOp Operator.Add (Value.ref _) (Value.ref _)) _ _ _); k_dflt (refine' m_add (by k_asm) (by k_asm) (by k_mem) (by k_mem) (by tb_rel) (by tb_rel) ?_)) | ((show wpAny _ _ (binaryOp Operator.Mult (Value.ref _) (Value.int _ _)) _ _ _); k_dflt (refine' m_mul (by k_asm) (by k_asm) (by k_mem) (by rfl) (by omega) ?_))); intro Dw hw Fw Nw lw; (try k_lt lw); (try k_sweep))) | ((with_reducible show UnrEnd _ _ _ _ _ _ _); (rename Fr _ _ _ _ => uF); (rename News _ _ _ _ => uN); k_dflt (apply unr_off uF uN (by k_mem)); (· repeat (first | exact off_nil | (apply off_all; tbn_find) | apply off_eq | (apply off_ne; · k_ne))); refine ⟨by k_mem, ?_⟩) | walk1 | (dsimp only; walk1) | (leave1; (try dsimp only))))
      rename Fr _ _ _ _ => kF
      rename News _ _ _ _ => kN
      refine' ⟨_, _, [.ref c, .ref q], _, rfl, ?m1, ?len, kF, kN, ?elt, ?left⟩
      case m1 => k_mem
      case len => (show (2 : Nat) ≤ 100000; decide)
      case elt =>
        intro C v s₂ m₂ E' hC hv hn hm hk
        repeat' ((fail_if_success (with_reducible show wpAny _ _ (newTuple _) _ _ _)); (first | (k_unfold; (try dsimp only)) | (k_end; wrow_close) | (with_reducible first | ((show wpAny _ _ (call (Value.builtin _) _) _ _ _); k_here; (first | ((show wpAny _ _ (call (Value.builtin "len") _) _ _ _); (first | k_dflt (refine' m_lenL (by k_asm) (by k_mem) (by first | (show _ = (0 : Int); rfl) | (show _ = (1 : Int); rfl) | (show _ = (2 : Int); rfl) | (show _ = (3 : Int); rfl) | (show _ = (4 : Int); rfl)) (by decide) ?_) | k_dflt (refine' m_len (by k_asm) (by k_mem) (by tb_rel) ?_))) | ((first | ((show wpAny _ _ (call (Value.builtin "list.append") _) _ _ _); k_dflt (refine' m_append (by k_asm) (by k_asm) (by first | assumption | k_upd) (by tb_rel) ?_)) | ((show wpAny _ _ (call (Value.builtin "list.extend") _) _ _ _); (first | k_dflt (refine' m_extend_nil (by k_asm) (by k_asm) (by k_mem) (by k_upd) (by tb_rel) ?_) | k_dflt (refine' m_extend (by k_asm) (by k_asm) (by k_mem) (by kl_some) (by k_upd) (by tb_rel) (by tb_rel) ?_))) | ((show wpAny _ _ (call (Value.builtin "list.pop") _) _ _ _); k_dflt (refine' m_pop (by k_asm) (by k_asm) (by k_upd) (by tb_rel) ?_))); intro hw Fw Nw; (try simp only [List.cons_append, List.nil_append] at Nw); (try k_sweep)))) | ((show wpAny _ _ (setItem (Value.ref _) (Value.int _ _) _) _ _ _); k_here; k_dflt (refine' m_set (by k_asm) (by k_asm) (by k_upd) (by tb_rel) (by tb_rel) (by tb_rel) ?_); intro hw Fw Nw; (try simp only [List.cons_append, List.nil_append] at Nw); (try k_sweep)) | ((show WhlIf _ _ _); (first | (refine WhlIf.yes (decide_eq_true (by tb_rel)) ?_) | (refine WhlIf.no (decide_eq_false (by tb_rel)) ?_))) | ((first | show wpAny _ _ (exec (Stmt.For (PySem.Expr.Name _ _) (PySem.Expr.Name _ _) _ _ _) _) _ _ _ | show wpAny _ _ (exec (Stmt.For (PySem.Expr.Name _ _) (PySem.Expr.Subscript _ _ _) _ _ _) _) _ _ _); k_here; (rename Fr _ _ _ _ => Fw'); (with_unfolding_all refine' For_invVF Fw' (by exact rfl) (by exact rfl) ?_); k_whole) | ((show wpAny _ _ (pyIter (Value.ref _)) _ _ _); k_here; (rename Fr _ _ _ _ => Fw'); (rename News _ _ _ _ => Nw'); (first | (with_unfolding_all refine iter_listUnr (vs := [_]) (by rfl) Fw' Nw' (by k_mem) (by rfl) (by rfl) ?_) | (with_unfolding_all refine iter_listUnr (vs := [_, _]) (by rfl) Fw' Nw' (by k_mem) (by rfl) (by rfl) ?_)); clear Fw'; intro iw lw; (try k_lt lw)) | ((show wpAny _ _ (subscriptTail _ _ (Value.ref _) (Value.int _ _)) _ _ _); k_here; (first | k_dflt (refine' m_getT (by k_asm) (by k_mem) (by decide) (by first | decide | tb_rel) (by rfl) ?_ (by with_unfolding_all rfl)) | k_dflt (refine' m_get (by k_asm) (by k_mem) (by first | decide | tb_rel) (by first | decide | tb_rel) (by first | assumption | rfl) ?_ (by with_unfolding_all rfl) (by intro _; with_unfolding_all rfl)))) | ((show wpAny _ _ (callWith _ (Prod.fst (Value.builtin _, _)) (Prod.snd (_, _ :: _)) (backTo _ (starEach (_ :: _) _)) []) _ _ _); refine callWith_method1 ?_ (by with_unfolding_all rfl) (by with_unfolding_all rfl)) | ((show wpAny _ _ (compareOp _ (Value.str _ _) _) _ _ _); k_here; (first | ((show wpAny _ _ (compareOp CmpOp.Eq (Value.str _ _) (Value.str _ _)) _ _ _); refine m_eqS (by assumption) ?_) | ((show wpAny _ _ (compareOp CmpOp.In (Value.str _ _) (Value.ref _)) _ _ _); (first | k_dflt (refine' m_inT (by k_asm) (by k_mem) (by assumption) ?_) | k_dflt (refine' m_inTop (by k_asm) (by k_asm) (by k_is) (by kde_strs) (by first | assumption | rfl | decide) ?_))))) | ((show wpAny _ _ (binaryOp _ (Value.ref _) _) _ _ _); k_here; (first | ((show wpAny _ _ (binaryOp Operator.Add (Value.ref _) (Value.ref _)) _ _ _); k_dflt (refine' m_add (by k_asm) (by k_asm) (by k_mem) (by k_mem) (by tb_rel) (by tb_rel) ?_)) | ((show wpAny _ _ (binaryOp Operator.Mult (Value.ref _) (Value.int _ _)) _ _ _); k_dflt (refine' m_mul (by k_asm) (by k_asm) (by k_mem) (by rfl) (by omega) ?_))); intro Dw hw Fw Nw lw; (try k_lt lw); (try k_sweep))) | ((with_reducible show UnrEnd _ _ _ _ _ _ _); (rename Fr _ _ _ _ => uF); (rename News _ _ _ _ => uN); k_dflt (apply unr_off uF uN (by k_mem)); (· repeat (first | exact off_nil | (apply off_all; tbn_find) | apply off_eq | (apply off_ne; · k_ne))); refine ⟨by k_mem, ?_⟩) | walk1 | (dsimp only; walk1) | (leave1; (try dsimp only))))
        refine item_made (G := fun v o => ∃ t1, o = tupO [sv "put" t1, v]) (v := v) ?_ ?_
        · exact ⟨_, rfl⟩
        · (simp only [sizeLine_eq, List.length_cons, List.length_nil]; omega)
      case left =>
        clear kF kN
        intro D ys objs nn' h' tk F N' hlt hne hneD P
        cases P with
        | cons hy1 P =>
          cases P with
          | cons hy2 P =>
            cases P
            obtain ⟨T1, _, rfl, hm1, ⟨u1, rfl⟩⟩ := hy1
            obtain ⟨T2, _, rfl, hm2, ⟨u2, rfl⟩⟩ := hy2
            replace N' := news_pair N' hm1 hm2
            have r3 : T1 ≠ ol := hne _ hm1 (ol, listOf O.toArray k) (by k_mem)
            have r4 : T2 ≠ ol := hne _ hm2 (ol, listOf O.toArray k) (by k_mem)
            have r5 : T1 ≠ D := hneD _ hm1
            have r6 : T2 ≠ D := hneD _ hm2
            have r8 : ol < D := hlt (ol, listOf O.toArray k) (by k_mem)
            have r10 : D ≠ ol := Nat.ne_of_gt r8
            have r11 : ∀ p ∈ T, p.1 ≠ D := fun p hp => Nat.ne_of_lt (hlt p (by repeat (first | exact hp | refine List.Mem.tail _ ?_)))
            clear hlt hne hneD hm1 hm2
            repeat' ((fail_if_success (with_reducible show Q_ _ _)); (first | (k_unfold; (try dsimp only)) | (k_end; wrow_close) | (with_reducible first | ((show wpAny _ _ (call (Value.builtin _) _) _ _ _); k_here; (first | ((show wpAny _ _ (call (Value.builtin "len") _) _ _ _); (first | k_dflt (refine' m_lenL (by k_asm) (by k_mem) (by first | (show _ = (0 : Int); rfl) | (show _ = (1 : Int); rfl) | (show _ = (2 : Int); rfl) | (show _ = (3 : Int); rfl) | (show _ = (4 : Int); rfl)) (by decide) ?_) | k_dflt (refine' m_len (by k_asm) (by k_mem) (by tb_rel) ?_))) | ((first | ((show wpAny _ _ (call (Value.builtin "list.append") _) _ _ _); k_dflt (refine' m_append (by k_asm) (by k_asm) (by first | assumption | k_upd) (by tb_rel) ?_)) | ((show wpAny _ _ (call (Value.builtin "list.extend") _) _ _ _); (first | k_dflt (refine' m_extend_nil (by k_asm) (by k_asm) (by k_mem) (by k_upd) (by tb_rel) ?_) | k_dflt (refine' m_extend (by k_asm) (by k_asm) (by k_mem) (by kl_some) (by k_upd) (by tb_rel) (by tb_rel) ?_))) | ((show wpAny _ _ (call (Value.builtin "list.pop") _) _ _ _); k_dflt (refine' m_pop (by k_asm) (by k_asm) (by k_upd) (by tb_rel) ?_))); intro hw Fw Nw; (try simp only [List.cons_append, List.nil_append] at Nw); (try k_sweep)))) | ((show wpAny _ _ (setItem (Value.ref _) (Value.int _ _) _) _ _ _); k_here; k_dflt (refine' m_set (by k_asm) (by k_asm) (by k_upd) (by tb_rel) (by tb_rel) (by tb_rel) ?_); intro hw Fw Nw; (try simp only [List.cons_append, List.nil_append] at Nw); (try k_sweep)) | ((show WhlIf _ _ _); (first | (refine WhlIf.yes (decide_eq_true (by tb_rel)) ?_) | (refine WhlIf.no (decide_eq_false (by tb_rel)) ?_))) | ((first | show wpAny _ _ (exec (Stmt.For (PySem.Expr.Name _ _) (PySem.Expr.Name _ _) _ _ _) _) _ _ _ | show wpAny _ _ (exec (Stmt.For (PySem.Expr.Name _ _) (PySem.Expr.Subscript _ _ _) _ _ _) _) _ _ _); k_here; (rename Fr _ _ _ _ => Fw'); (with_unfolding_all refine' For_invVF Fw' (by exact rfl) (by exact rfl) ?_); k_whole) | ((show wpAny _ _ (pyIter (Value.ref _)) _ _ _); k_here; (rename Fr _ _ _ _ => Fw'); (rename News _ _ _ _ => Nw'); (first | (with_unfolding_all refine iter_listUnr (vs := [_]) (by rfl) Fw' Nw' (by k_mem) (by rfl) (by rfl) ?_) | (with_unfolding_all refine iter_listUnr (vs := [_, _]) (by rfl) Fw' Nw' (by k_mem) (by rfl) (by rfl) ?_)); clear Fw'; intro iw lw; (try k_lt lw)) | ((show wpAny _ _ (subscriptTail _ _ (Value.ref _) (Value.int _ _)) _ _ _); k_here; (first | k_dflt (refine' m_getT (by k_asm) (by k_mem) (by decide) (by first | decide | tb_rel) (by rfl) ?_ (by with_unfolding_all rfl)) | k_dflt (refine' m_get (by k_asm) (by k_mem) (by first | decide | tb_rel) (by first | decide | tb_rel) (by first | assumption | rfl) ?_ (by with_unfolding_all rfl) (by intro _; with_unfolding_all rfl)))) | ((show wpAny _ _ (callWith _ (Prod.fst (Value.builtin _, _)) (Prod.snd (_, _ :: _)) (backTo _ (starEach (_ :: _) _)) []) _ _ _); refine callWith_method1 ?_ (by with_unfolding_all rfl) (by with_unfolding_all rfl)) | ((show wpAny _ _ (compareOp _ (Value.str _ _) _) _ _ _); k_here; (first | ((show wpAny _ _ (compareOp CmpOp.Eq (Value.str _ _) (Value.str _ _)) _ _ _); refine m_eqS (by assumption) ?_) | ((show wpAny _ _ (compareOp CmpOp.In (Value.str _ _) (Value.ref _)) _ _ _); (first | k_dflt (refine' m_inT (by k_asm) (by k_mem) (by assumption) ?_) | k_dflt (refine' m_inTop (by k_asm) (by k_asm) (by k_is) (by kde_strs) (by first | assumption | rfl | decide) ?_))))) | ((show wpAny _ _ (binaryOp _ (Value.ref _) _) _ _ _); k_here; (first | ((show wpAny _ _ (binaryOp Operator.Add (Value.ref _) (Value.ref _)) _ _ _); k_dflt (refine' m_add (by k_asm) (by k_asm) (by k_mem) (by k_mem) (by tb_rel) (by tb_rel) ?_)) | ((show wpAny _ _ (binaryOp Operator.Mult (Value.ref _) (Value.int _ _)) _ _ _); k_dflt (refine' m_mul (by k_asm) (by k_asm) (by k_mem) (by rfl) (by omega) ?_))); intro Dw hw Fw Nw lw; (try k_lt lw); (try k_sweep))) | ((with_reducible show UnrEnd _ _ _ _ _ _ _); (rename Fr _ _ _ _ => uF); (rename News _ _ _ _ => uN); k_dflt (apply unr_off uF uN (by k_mem)); (· repeat (first | exact off_nil | (apply off_all; tbn_find) | apply off_eq | (apply off_ne; · k_ne))); refine ⟨by k_mem, ?_⟩) | walk1 | (dsimp only; walk1) | (leave1; (try dsimp only))))
            rename News _ _ _ _ => kN
            rename Fr _ _ _ _ => kF
            exact hret _ _ _ _ kF kN (hn _ _ T1 T2 u1 u2 ⟨news_one kN, (fun p hp => by repeat (first | exact hp | refine List.Mem.tail _ ?_)), ⟨_, by k_mem⟩, by k_mem, by k_mem, ⟨_, by k_mem⟩, r11⟩ (by k_mem) (by k_mem))
/-- what bound leaves behind, whatever the word -/
def Bft (T2 : List (Addr × Obj)) (x dx ol : Addr) (hs : Int) (tk0 : Tok) (O' : List Value) : Prop :=
  OneEach T2 ∧ (∃ k, (ol, listOf O'.toArray k) ∈ T2) ∧ (x, instObj 94 dx) ∈ T2 ∧ (dx, dictOf [⟨hs, sv "orders" tk0, .ref ol⟩] 1) ∈ T2
def BOpen (T : List (Addr × Obj)) (e x dx ol : Addr) (hs : Int) (tk0 : Tok) (O : List Value) (P : List (Addr × Obj) → Value → Prop) : Prop :=
  ∃ (v0 v1 : Value) (n1 : Nat), (e, listOf [v0, v1].toArray n1) ∈ T ∧ ∀ (T2 : List (Addr × Obj)) (n2 u1 : Nat) (i1 : Int), Bft T2 x dx ol hs tk0 (O ++ [Value.none]) → (∀ p ∈ off T e, p ∈ T2) → (e, listOf [Value.int i1 u1, v1].toArray n2) ∈ T2 → i1 = O.length → P T2 .none
def BShut (T : List (Addr × Obj)) (e x dx ol : Addr) (hs : Int) (tk0 : Tok) (O : List Value) (P : List (Addr × Obj) → Value → Prop) : Prop :=
  ∃ (ll : Addr) (i : Int) (t2 : Tok) (n1 n2 : Nat), (e, listOf [Value.int i t2, .ref ll].toArray n1) ∈ T ∧ (ll, listOf ([] : List Value).toArray n2) ∈ T ∧ e ≠ ll ∧ 0 ≤ i ∧ i < O.length ∧
    ∀ (T2 : List (Addr × Obj)) (sp : Addr) (n3 u1 u2 u3 : Nat) (i1 i2 : Int), Bft T2 x dx ol hs tk0 ((O ++ [Value.none]).set i.toNat (.ref sp)) → (∀ p ∈ off T ll, p ∈ T2) → (sp, tupO [sv "split" u1, .int i1 u2]) ∈ T2 → (ll, listOf [Value.int i2 u3].toArray n3) ∈ T2 → i1 = O.length + 1 → i2 = O.length → P T2 .none
def BMeet (T : List (Addr × Obj)) (e x dx ol : Addr) (hs : Int) (tk0 : Tok) (O : List Value) (P : List (Addr × Obj) → Value → Prop) : Prop :=
  ∃ (ll : Addr) (v0 : Value) (i : Int) (t2 : Tok) (n1 n2 : Nat), (e, listOf [v0, .ref ll].toArray n1) ∈ T ∧ (ll, listOf [Value.int i t2].toArray n2) ∈ T ∧ 0 ≤ i ∧ i < O.length ∧
    ∀ (T2 : List (Addr × Obj)) (j : Addr) (u1 u2 : Nat) (i1 : Int), Bft T2 x dx ol hs tk0 (O.set i.toNat (.ref j)) → (∀ p ∈ T, p ∈ T2) → (j, tupO [sv "jump" u1, .int i1 u2]) ∈ T2 → i1 = O.length → P T2 .none
set_option maxRecDepth 100000 in
set_option maxHeartbeats 16000000 in
theorem bound_c (w : World) (x dx ol e : Addr) (wd : String) (tw : Tok) (hs : Int) (tk0 : Tok) (O : List Value) (k : Nat) (T : List (Addr × Obj)) (P : List (Addr × Obj) → Value → Prop) (hT : OwnOff T [ol]) (w1 : ol ≠ x) (w2 : ol ≠ dx) (hz : O.length ≤ 20000)
    (K : wd = "open" ∧ BOpen T e x dx ol hs tk0 O P ∨ wd = "shut" ∧ BShut T e x dx ol hs tk0 O P ∨ wd = "meet" ∧ BMeet T e x dx ol hs tk0 O P) :
    CallOf w 304 13 91 [.ref x, sv wd tw, .ref e] ((ol, listOf O.toArray k) :: (x, instObj 94 dx) :: (dx, dictOf [⟨hs, sv "orders" tk0, .ref ol⟩] 1) :: T) P := by
  w_top off
  unfold CallOf
  intro mg_ mb_ mean_ gd_ cn_ cs_ a_ ccd_ cl_ outer_ A_ base_ hb_ L_ m_ s_ Q_ E_ B_ F_ X_ N_ Tp_ hk_ hret
  refine wpAny_call ?_
  k_dflt ktr_enter
  rcases K with K | K | K
  · obtain ⟨rfl, v0, v1, n1, he, hn⟩ := K
    rename News _ _ _ _ => bN
    have x_e : x ≠ e := cls_ne bN (.tail _ (.head _)) (.tail _ (.tail _ (.tail _ he))) (by simp)
    have dx_e : dx ≠ e := cls_ne bN (.tail _ (.tail _ (.head _))) (.tail _ (.tail _ (.tail _ he))) (by simp)
    have ol_e : ol ≠ e := Ne.symm (hT _ he _ (.head _))
    have hT2 := own_offs (e := e) hT
    replace bN := news_off3 bN he
    repeat' ((fail_if_success (with_reducible show wpAny _ _ (call (Value.ref 58) _) _ _ _)); (fail_if_success (with_reducible show Q_ _ _)); (first | (k_unfold; (try dsimp only)) | (k_end; wrow_close) | (with_reducible first | ((show wpAny _ _ (call (Value.builtin _) _) _ _ _); k_here; (first | ((show wpAny _ _ (call (Value.builtin "len") _) _ _ _); (first | k_dflt (refine' m_lenL (by k_asm) (by k_mem) (by first | (show _ = (0 : Int); rfl) | (show _ = (1 : Int); rfl) | (show _ = (2 : Int); rfl) | (show _ = (3 : Int); rfl) | (show _ = (4 : Int); rfl)) (by decide) ?_) | k_dflt (refine' m_len (by k_asm) (by k_mem) (by tb_rel) ?_))) | ((first | ((show wpAny _ _ (call (Value.builtin "list.append") _) _ _ _); k_dflt (refine' m_append (by k_asm) (by k_asm) (by first | assumption | k_upd) (by tb_rel) ?_)) | ((show wpAny _ _ (call (Value.builtin "list.extend") _) _ _ _); (first | k_dflt (refine' m_extend_nil (by k_asm) (by k_asm) (by k_mem) (by k_upd) (by tb_rel) ?_) | k_dflt (refine' m_extend (by k_asm) (by k_asm) (by k_mem) (by kl_some) (by k_upd) (by tb_rel) (by tb_rel) ?_))) | ((show wpAny _ _ (call (Value.builtin "list.pop") _) _ _ _); k_dflt (refine' m_pop (by k_asm) (by k_asm) (by k_upd) (by tb_rel) ?_))); intro hw Fw Nw; (try simp only [List.cons_append, List.nil_append] at Nw); (try k_sweep)))) | ((show wpAny _ _ (setItem (Value.ref _) (Value.int _ _) _) _ _ _); k_here; k_dflt (refine' m_set (by k_asm) (by k_asm) (by k_upd) (by tb_rel) (by tb_rel) (by tb_rel) ?_); intro hw Fw Nw; (try simp only [List.cons_append, List.nil_append] at Nw); (try k_sweep)) | ((show WhlIf _ _ _); (first | (refine WhlIf.yes (decide_eq_true (by tb_rel)) ?_) | (refine WhlIf.no (decide_eq_false (by tb_rel)) ?_))) | ((first | show wpAny _ _ (exec (Stmt.For (PySem.Expr.Name _ _) (PySem.Expr.Name _ _) _ _ _) _) _ _ _ | show wpAny _ _ (exec (Stmt.For (PySem.Expr.Name _ _) (PySem.Expr.Subscript _ _ _) _ _ _) _) _ _ _); k_here; (rename Fr _ _ _ _ => Fw'); (with_unfolding_all refine' For_invVF Fw' (by exact rfl) (by exact rfl) ?_); k_whole) | ((show wpAny _ _ (pyIter (Value.ref _)) _ _ _); k_here; (rename Fr _ _ _ _ => Fw'); (rename News _ _ _ _ => Nw'); (first | (with_unfolding_all refine iter_listUnr (vs := [_]) (by rfl) Fw' Nw' (by k_mem) (by rfl) (by rfl) ?_) | (with_unfolding_all refine iter_listUnr (vs := [_, _]) (by rfl) Fw' Nw' (by k_mem) (by rfl) (by rfl) ?_)); clear Fw'; intro iw lw; (try k_lt lw)) | ((show wpAny _ _ (subscriptTail _ _ (Value.ref _) (Value.int _ _)) _ _ _); k_here; (first | k_dflt (refine' m_getT (by k_asm) (by k_mem) (by decide) (by first | decide | tb_rel) (by rfl) ?_ (by with_unfolding_all rfl)) | k_dflt (refine' m_get (by k_asm) (by k_mem) (by first | decide | tb_rel) (by first | decide | tb_rel) (by first | assumption | rfl) ?_ (by with_unfolding_all rfl) (by intro _; with_unfolding_all rfl)))) | ((show wpAny _ _ (callWith _ (Prod.fst (Value.builtin _, _)) (Prod.snd (_, _ :: _)) (backTo _ (starEach (_ :: _) _)) []) _ _ _); refine callWith_method1 ?_ (by with_unfolding_all rfl) (by with_unfolding_all rfl)) | ((show wpAny _ _ (compareOp _ (Value.str _ _) _) _ _ _); k_here; (first | ((show wpAny _ _ (compareOp CmpOp.Eq (Value.str _ _) (Value.str _ _)) _ _ _); refine m_eqS (by assumption) ?_) | ((show wpAny _ _ (compareOp CmpOp.In (Value.str _ _) (Value.ref _)) _ _ _); (first | k_dflt (refine' m_inT (by k_asm) (by k_mem) (by assumption) ?_) | k_dflt (refine' m_inTop (by k_asm) (by k_asm) (by k_is) (by kde_strs) (by first | assumption | rfl | decide) ?_))))) | ((show wpAny _ _ (binaryOp _ (Value.ref _) _) _ _ _); k_here; (first | ((show wpAny _ _ (binaryOp Operator.Add (Value.ref _) (Value.ref _)) _ _ _); k_dflt (refine' m_add (by k_asm) (by k_asm) (by k_mem) (by k_mem) (by tb_rel) (by tb_rel) ?_)) | ((show wpAny _ _ (binaryOp Operator.Mult (Value.ref _) (Value.int _ _)) _ _ _); k_dflt (refine' m_mul (by k_asm) (by k_asm) (by k_mem) (by rfl) (by omega) ?_))); intro Dw hw Fw Nw lw; (try k_lt lw); (try k_sweep))) | ((with_reducible show UnrEnd _ _ _ _ _ _ _); (rename Fr _ _ _ _ => uF); (rename News _ _ _ _ => uN); k_dflt (apply unr_off uF uN (by k_mem)); (· repeat (first | exact off_nil | (apply off_all; tbn_find) | apply off_eq | (apply off_ne; · k_ne))); refine ⟨by k_mem, ?_⟩) | walk1 | (dsimp only; walk1) | (leave1; (try dsimp only))))
    rename News _ _ _ _ => eN
    rename Fr _ _ _ _ => eF
    refine emit_c _ 305 16 (by exact Nat.le_of_ble_eq_true rfl) (by exact Nat.le_of_ble_eq_true rfl) x dx ol hs tk0 _ _ _ _ _ (by k_mem) (by k_mem) (by k_upd) w1 w2 (by tb_rel) _ _ _ _ _ _ _ _ _ _ _ _ _ _ _ _ _ _ (by assumption) eF (by k_asm) eN (by assumption) (by rfl) ?_
    clear eF eN
    rintro _ _ h' tk' F' N' ⟨rfl, ie1, te1, rfl, hie1⟩
    (try dsimp only)
    repeat' ((fail_if_success (with_reducible show Q_ _ _)); (first | (k_unfold; (try dsimp only)) | (k_end; wrow_close) | (with_reducible first | ((show wpAny _ _ (call (Value.builtin _) _) _ _ _); k_here; (first | ((show wpAny _ _ (call (Value.builtin "len") _) _ _ _); (first | k_dflt (refine' m_lenL (by k_asm) (by k_mem) (by first | (show _ = (0 : Int); rfl) | (show _ = (1 : Int); rfl) | (show _ = (2 : Int); rfl) | (show _ = (3 : Int); rfl) | (show _ = (4 : Int); rfl)) (by decide) ?_) | k_dflt (refine' m_len (by k_asm) (by k_mem) (by tb_rel) ?_))) | ((first | ((show wpAny _ _ (call (Value.builtin "list.append") _) _ _ _); k_dflt (refine' m_append (by k_asm) (by k_asm) (by first | assumption | k_upd) (by tb_rel) ?_)) | ((show wpAny _ _ (call (Value.builtin "list.extend") _) _ _ _); (first | k_dflt (refine' m_extend_nil (by k_asm) (by k_asm) (by k_mem) (by k_upd) (by tb_rel) ?_) | k_dflt (refine' m_extend (by k_asm) (by k_asm) (by k_mem) (by kl_some) (by k_upd) (by tb_rel) (by tb_rel) ?_))) | ((show wpAny _ _ (call (Value.builtin "list.pop") _) _ _ _); k_dflt (refine' m_pop (by k_asm) (by k_asm) (by k_upd) (by tb_rel) ?_))); intro hw Fw Nw; (try simp only [List.cons_append, List.nil_append] at Nw); (try k_sweep)))) | ((show wpAny _ _ (setItem (Value.ref _) (Value.int _ _) _) _ _ _); k_here; k_dflt (refine' m_set (by k_asm) (by k_asm) (by k_upd) (by tb_rel) (by tb_rel) (by tb_rel) ?_); intro hw Fw Nw; (try simp only [List.cons_append, List.nil_append] at Nw); (try k_sweep)) | ((show WhlIf _ _ _); (first | (refine WhlIf.yes (decide_eq_true (by tb_rel)) ?_) | (refine WhlIf.no (decide_eq_false (by tb_rel)) ?_))) | ((first | show wpAny _ _ (exec (Stmt.For (PySem.Expr.Name _ _) (PySem.Expr.Name _ _) _ _ _) _) _ _ _ | show wpAny _ _ (exec (Stmt.For (PySem.Expr.Name _ _) (PySem.Expr.Subscript _ _ _) _ _ _) _) _ _ _); k_here; (rename Fr _ _ _ _ => Fw'); (with_unfolding_all refine' For_invVF Fw' (by exact rfl) (by exact rfl) ?_); k_whole) | ((show wpAny _ _ (pyIter (Value.ref _)) _ _ _); k_here; (rename Fr _ _ _ _ => Fw'); (rename News _ _ _ _ => Nw'); (first | (with_unfolding_all refine iter_listUnr (vs := [_]) (by rfl) Fw' Nw' (by k_mem) (by rfl) (by rfl) ?_) | (with_unfolding_all refine iter_listUnr (vs := [_, _]) (by rfl) Fw' Nw' (by k_mem) (by rfl) (by rfl) ?_)); clear Fw'; intro iw lw; (try k_lt lw)) | ((show wpAny _ _ (subscriptTail _ _ (Value.ref _) (Value.int _ _)) _ _ _); k_here; (first | k_dflt (refine' m_getT (by k_asm) (by k_mem) (by decide) (by first | decide | tb_rel) (by rfl) ?_ (by with_unfolding_all rfl)) | k_dflt (refine' m_get (by k_asm) (by k_mem) (by first | decide | tb_rel) (by first | decide | tb_rel) (by first | assumption | rfl) ?_ (by with_unfolding_all rfl) (by intro _; with_unfolding_all rfl)))) | ((show wpAny _ _ (callWith _ (Prod.fst (Value.builtin _, _)) (Prod.snd (_, _ :: _)) (backTo _ (starEach (_ :: _) _)) []) _ _ _); refine callWith_method1 ?_ (by with_unfolding_all rfl) (by with_unfolding_all rfl)) | ((show wpAny _ _ (compareOp _ (Value.str _ _) _) _ _ _); k_here; (first | ((show wpAny _ _ (compareOp CmpOp.Eq (Value.str _ _) (Value.str _ _)) _ _ _); refine m_eqS (by assumption) ?_) | ((show wpAny _ _ (compareOp CmpOp.In (Value.str _ _) (Value.ref _)) _ _ _); (first | k_dflt (refine' m_inT (by k_asm) (by k_mem) (by assumption) ?_) | k_dflt (refine' m_inTop (by k_asm) (by k_asm) (by k_is) (by kde_strs) (by first | assumption | rfl | decide) ?_))))) | ((show wpAny _ _ (binaryOp _ (Value.ref _) _) _ _ _); k_here; (first | ((show wpAny _ _ (binaryOp Operator.Add (Value.ref _) (Value.ref _)) _ _ _); k_dflt (refine' m_add (by k_asm) (by k_asm) (by k_mem) (by k_mem) (by tb_rel) (by tb_rel) ?_)) | ((show wpAny _ _ (binaryOp Operator.Mult (Value.ref _) (Value.int _ _)) _ _ _); k_dflt (refine' m_mul (by k_asm) (by k_asm) (by k_mem) (by rfl) (by omega) ?_))); intro Dw hw Fw Nw lw; (try k_lt lw); (try k_sweep))) | ((with_reducible show UnrEnd _ _ _ _ _ _ _); (rename Fr _ _ _ _ => uF); (rename News _ _ _ _ => uN); k_dflt (apply unr_off uF uN (by k_mem)); (· repeat (first | exact off_nil | (apply off_all; tbn_find) | apply off_eq | (apply off_ne; · k_ne))); refine ⟨by k_mem, ?_⟩) | walk1 | (dsimp only; walk1) | (leave1; (try dsimp only))))
    rename News _ _ _ _ => kN
    rename Fr _ _ _ _ => kF
    exact hret _ _ _ _ kF kN (hn _ _ _ _ ⟨news_one kN, ⟨_, by k_mem⟩, by k_mem, by k_mem⟩ (fun p hp => by repeat (first | exact hp | refine List.Mem.tail _ ?_)) (by k_mem) (by first | assumption | (simp only [List.length_append, List.length_cons, List.length_nil, List.length_set] at *; omega)))
  · obtain ⟨rfl, ll, i, t2, n1, n2, he, hll, e_ll, hi0, hi1, hn⟩ := K
    rename News _ _ _ _ => bN
    have x_l : x ≠ ll := cls_ne bN (.tail _ (.head _)) (.tail _ (.tail _ (.tail _ hll))) (by simp)
    have dx_l : dx ≠ ll := cls_ne bN (.tail _ (.tail _ (.head _))) (.tail _ (.tail _ (.tail _ hll))) (by simp)
    have ol_l : ol ≠ ll := Ne.symm (hT _ hll _ (.head _))
    have ol_e : ol ≠ e := Ne.symm (hT _ he _ (.head _))
    have hT2 := own_offs (e := ll) hT
    replace bN := news_off3 bN hll
    replace bN := news_lits [(e, listOf (List.toArray [.int i t2, .ref ll]) n1)] bN (List.forall_mem_cons.mpr ⟨mem_off.mpr ⟨he, e_ll⟩, List.forall_mem_nil _⟩)
    simp only [List.cons_append, List.nil_append] at bN
    repeat' ((fail_if_success (with_reducible show wpAny _ _ (call (Value.ref 58) _) _ _ _)); (fail_if_success (with_reducible show Q_ _ _)); (first | (k_unfold; (try dsimp only)) | (k_end; wrow_close) | (with_reducible first | ((show wpAny _ _ (call (Value.builtin _) _) _ _ _); k_here; (first | ((show wpAny _ _ (call (Value.builtin "len") _) _ _ _); (first | k_dflt (refine' m_lenL (by k_asm) (by k_mem) (by first | (show _ = (0 : Int); rfl) | (show _ = (1 : Int); rfl) | (show _ = (2 : Int); rfl) | (show _ = (3 : Int); rfl) | (show _ = (4 : Int); rfl)) (by decide) ?_) | k_dflt (refine' m_len (by k_asm) (by k_mem) (by tb_rel) ?_))) | ((first | ((show wpAny _ _ (call (Value.builtin "list.append") _) _ _ _); k_dflt (refine' m_append (by k_asm) (by k_asm) (by first | assumption | k_upd) (by tb_rel) ?_)) | ((show wpAny _ _ (call (Value.builtin "list.extend") _) _ _ _); (first | k_dflt (refine' m_extend_nil (by k_asm) (by k_asm) (by k_mem) (by k_upd) (by tb_rel) ?_) | k_dflt (refine' m_extend (by k_asm) (by k_asm) (by k_mem) (by kl_some) (by k_upd) (by tb_rel) (by tb_rel) ?_))) | ((show wpAny _ _ (call (Value.builtin "list.pop") _) _ _ _); k_dflt (refine' m_pop (by k_asm) (by k_asm) (by k_upd) (by tb_rel) ?_))); intro hw Fw Nw; (try simp only [List.cons_append, List.nil_append] at Nw); (try k_sweep)))) | ((show wpAny _ _ (setItem (Value.ref _) (Value.int _ _) _) _ _ _); k_here; k_dflt (refine' m_set (by k_asm) (by k_asm) (by k_upd) (by tb_rel) (by tb_rel) (by tb_rel) ?_); intro hw Fw Nw; (try simp only [List.cons_append, List.nil_append] at Nw); (try k_sweep)) | ((show WhlIf _ _ _); (first | (refine WhlIf.yes (decide_eq_true (by tb_rel)) ?_) | (refine WhlIf.no (decide_eq_false (by tb_rel)) ?_))) | ((first | show wpAny _ _ (exec (Stmt.For (PySem.Expr.Name _ _) (PySem.Expr.Name _ _) _ _ _) _) _ _ _ | show wpAny _ _ (exec (Stmt.For (PySem.Expr.Name _ _) (PySem.Expr.Subscript _ _ _) _ _ _) _) _ _ _); k_here; (rename Fr _ _ _ _ => Fw'); (with_unfolding_all refine' For_invVF Fw' (by exact rfl) (by exact rfl) ?_); k_whole) | ((show wpAny _ _ (pyIter (Value.ref _)) _ _ _); k_here; (rename Fr _ _ _ _ => Fw'); (rename News _ _ _ _ => Nw'); (first | (with_unfolding_all refine iter_listUnr (vs := [_]) (by rfl) Fw' Nw' (by k_mem) (by rfl) (by rfl) ?_) | (with_unfolding_all refine iter_listUnr (vs := [_, _]) (by rfl) Fw' Nw' (by k_mem) (by rfl) (by rfl) ?_)); clear Fw'; intro iw lw; (try k_lt lw)) | ((show wpAny _ _ (subscriptTail _ _ (Value.ref _) (Value.int _ _)) _ _ _); k_here; (first | k_dflt (refine' m_getT (by k_asm) (by k_mem) (by decide) (by first | decide | tb_rel) (by rfl) ?_ (by with_unfolding_all rfl)) | k_dflt (refine' m_get (by k_asm) (by k_mem) (by first | decide | tb_rel) (by first | decide | tb_rel) (by first | assumption | rfl) ?_ (by with_unfolding_all rfl) (by intro _; with_unfolding_all rfl)))) | ((show wpAny _ _ (callWith _ (Prod.fst (Value.builtin _, _)) (Prod.snd (_, _ :: _)) (backTo _ (starEach (_ :: _) _)) []) _ _ _); refine callWith_method1 ?_ (by with_unfolding_all rfl) (by with_unfolding_all rfl)) | ((show wpAny _ _ (compareOp _ (Value.str _ _) _) _ _ _); k_here; (first | ((show wpAny _ _ (compareOp CmpOp.Eq (Value.str _ _) (Value.str _ _)) _ _ _); refine m_eqS (by assumption) ?_) | ((show wpAny _ _ (compareOp CmpOp.In (Value.str _ _) (Value.ref _)) _ _ _); (first | k_dflt (refine' m_inT (by k_asm) (by k_mem) (by assumption) ?_) | k_dflt (refine' m_inTop (by k_asm) (by k_asm) (by k_is) (by kde_strs) (by first | assumption | rfl | decide) ?_))))) | ((show wpAny _ _ (binaryOp _ (Value.ref _) _) _ _ _); k_here; (first | ((show wpAny _ _ (binaryOp Operator.Add (Value.ref _) (Value.ref _)) _ _ _); k_dflt (refine' m_add (by k_asm) (by k_asm) (by k_mem) (by k_mem) (by tb_rel) (by tb_rel) ?_)) | ((show wpAny _ _ (binaryOp Operator.Mult (Value.ref _) (Value.int _ _)) _ _ _); k_dflt (refine' m_mul (by k_asm) (by k_asm) (by k_mem) (by rfl) (by omega) ?_))); intro Dw hw Fw Nw lw; (try k_lt lw); (try k_sweep))) | ((with_reducible show UnrEnd _ _ _ _ _ _ _); (rename Fr _ _ _ _ => uF); (rename News _ _ _ _ => uN); k_dflt (apply unr_off uF uN (by k_mem)); (· repeat (first | exact off_nil | (apply off_all; tbn_find) | apply off_eq | (apply off_ne; · k_ne))); refine ⟨by k_mem, ?_⟩) | walk1 | (dsimp only; walk1) | (leave1; (try dsimp only))))
    rename News _ _ _ _ => eN
    rename Fr _ _ _ _ => eF
    refine emit_c _ 305 16 (by exact Nat.le_of_ble_eq_true rfl) (by exact Nat.le_of_ble_eq_true rfl) x dx ol hs tk0 _ _ _ _ _ (by k_mem) (by k_mem) (by k_upd) w1 w2 (by tb_rel) _ _ _ _ _ _ _ _ _ _ _ _ _ _ _ _ _ _ (by assumption) eF (by k_asm) eN (by assumption) (by rfl) ?_
    clear eF eN
    rintro _ _ h' tk' F' N' ⟨rfl, ie1, te1, rfl, hie1⟩
    (try dsimp only)
    repeat' ((fail_if_success (with_reducible show Q_ _ _)); (first | (k_unfold; (try dsimp only)) | (k_end; wrow_close) | (with_reducible first | ((show wpAny _ _ (call (Value.builtin _) _) _ _ _); k_here; (first | ((show wpAny _ _ (call (Value.builtin "len") _) _ _ _); (first | k_dflt (refine' m_lenL (by k_asm) (by k_mem) (by first | (show _ = (0 : Int); rfl) | (show _ = (1 : Int); rfl) | (show _ = (2 : Int); rfl) | (show _ = (3 : Int); rfl) | (show _ = (4 : Int); rfl)) (by decide) ?_) | k_dflt (refine' m_len (by k_asm) (by k_mem) (by tb_rel) ?_))) | ((first | ((show wpAny _ _ (call (Value.builtin "list.append") _) _ _ _); k_dflt (refine' m_append (by k_asm) (by k_asm) (by first | assumption | k_upd) (by tb_rel) ?_)) | ((show wpAny _ _ (call (Value.builtin "list.extend") _) _ _ _); (first | k_dflt (refine' m_extend_nil (by k_asm) (by k_asm) (by k_mem) (by k_upd) (by tb_rel) ?_) | k_dflt (refine' m_extend (by k_asm) (by k_asm) (by k_mem) (by kl_some) (by k_upd) (by tb_rel) (by tb_rel) ?_))) | ((show wpAny _ _ (call (Value.builtin "list.pop") _) _ _ _); k_dflt (refine' m_pop (by k_asm) (by k_asm) (by k_upd) (by tb_rel) ?_))); intro hw Fw Nw; (try simp only [List.cons_append, List.nil_append] at Nw); (try k_sweep)))) | ((show wpAny _ _ (setItem (Value.ref _) (Value.int _ _) _) _ _ _); k_here; k_dflt (refine' m_set (by k_asm) (by k_asm) (by k_upd) (by tb_rel) (by tb_rel) (by tb_rel) ?_); intro hw Fw Nw; (try simp only [List.cons_append, List.nil_append] at Nw); (try k_sweep)) | ((show WhlIf _ _ _); (first | (refine WhlIf.yes (decide_eq_true (by tb_rel)) ?_) | (refine WhlIf.no (decide_eq_false (by tb_rel)) ?_))) | ((first | show wpAny _ _ (exec (Stmt.For (PySem.Expr.Name _ _) (PySem.Expr.Name _ _) _ _ _) _) _ _ _ | show wpAny _ _ (exec (Stmt.For (PySem.Expr.Name _ _) (PySem.Expr.Subscript _ _ _) _ _ _) _) _ _ _); k_here; (rename Fr _ _ _ _ => Fw'); (with_unfolding_all refine' For_invVF Fw' (by exact rfl) (by exact rfl) ?_); k_whole) | ((show wpAny _ _ (pyIter (Value.ref _)) _ _ _); k_here; (rename Fr _ _ _ _ => Fw'); (rename News _ _ _ _ => Nw'); (first | (with_unfolding_all refine iter_listUnr (vs := [_]) (by rfl) Fw' Nw' (by k_mem) (by rfl) (by rfl) ?_) | (with_unfolding_all refine iter_listUnr (vs := [_, _]) (by rfl) Fw' Nw' (by k_mem) (by rfl) (by rfl) ?_)); clear Fw'; intro iw lw; (try k_lt lw)) | ((show wpAny _ _ (subscriptTail _ _ (Value.ref _) (Value.int _ _)) _ _ _); k_here; (first | k_dflt (refine' m_getT (by k_asm) (by k_mem) (by decide) (by first | decide | tb_rel) (by rfl) ?_ (by with_unfolding_all rfl)) | k_dflt (refine' m_get (by k_asm) (by k_mem) (by first | decide | tb_rel) (by first | decide | tb_rel) (by first | assumption | rfl) ?_ (by with_unfolding_all rfl) (by intro _; with_unfolding_all rfl)))) | ((show wpAny _ _ (callWith _ (Prod.fst (Value.builtin _, _)) (Prod.snd (_, _ :: _)) (backTo _ (starEach (_ :: _) _)) []) _ _ _); refine callWith_method1 ?_ (by with_unfolding_all rfl) (by with_unfolding_all rfl)) | ((show wpAny _ _ (compareOp _ (Value.str _ _) _) _ _ _); k_here; (first | ((show wpAny _ _ (compareOp CmpOp.Eq (Value.str _ _) (Value.str _ _)) _ _ _); refine m_eqS (by assumption) ?_) | ((show wpAny _ _ (compareOp CmpOp.In (Value.str _ _) (Value.ref _)) _ _ _); (first | k_dflt (refine' m_inT (by k_asm) (by k_mem) (by assumption) ?_) | k_dflt (refine' m_inTop (by k_asm) (by k_asm) (by k_is) (by kde_strs) (by first | assumption | rfl | decide) ?_))))) | ((show wpAny _ _ (binaryOp _ (Value.ref _) _) _ _ _); k_here; (first | ((show wpAny _ _ (binaryOp Operator.Add (Value.ref _) (Value.ref _)) _ _ _); k_dflt (refine' m_add (by k_asm) (by k_asm) (by k_mem) (by k_mem) (by tb_rel) (by tb_rel) ?_)) | ((show wpAny _ _ (binaryOp Operator.Mult (Value.ref _) (Value.int _ _)) _ _ _); k_dflt (refine' m_mul (by k_asm) (by k_asm) (by k_mem) (by rfl) (by omega) ?_))); intro Dw hw Fw Nw lw; (try k_lt lw); (try k_sweep))) | ((with_reducible show UnrEnd _ _ _ _ _ _ _); (rename Fr _ _ _ _ => uF); (rename News _ _ _ _ => uN); k_dflt (apply unr_off uF uN (by k_mem)); (· repeat (first | exact off_nil | (apply off_all; tbn_find) | apply off_eq | (apply off_ne; · k_ne))); refine ⟨by k_mem, ?_⟩) | walk1 | (dsimp only; walk1) | (leave1; (try dsimp only))))
    rename News _ _ _ _ => kN
    rename Fr _ _ _ _ => kF
    exact hret _ _ _ _ kF kN (hn _ _ _ _ _ _ _ _ ⟨news_one kN, ⟨_, by k_mem⟩, by k_mem, by k_mem⟩ (fun p hp => by repeat (first | exact hp | refine List.Mem.tail _ ?_)) (by k_mem) (by k_mem) (by first | assumption | (simp only [List.length_append, List.length_cons, List.length_nil, List.length_set] at *; omega)) (by first | assumption | (simp only [List.length_append, List.length_cons, List.length_nil, List.length_set] at *; omega)))
  · obtain ⟨rfl, ll, v0, i, t2, n1, n2, he, hll, hi0, hi1, hn⟩ := K
    rename News _ _ _ _ => bN
    have ol_l : ol ≠ ll := Ne.symm (hT _ hll _ (.head _))
    have ol_e : ol ≠ e := Ne.symm (hT _ he _ (.head _))
    replace bN := news_lits3 [(e, listOf (List.toArray [v0, .ref ll]) n1), (ll, listOf (List.toArray [.int i t2]) n2)] bN (List.forall_mem_cons.mpr ⟨he, List.forall_mem_cons.mpr ⟨hll, List.forall_mem_nil _⟩⟩)
    simp only [List.cons_append, List.nil_append] at bN
    repeat' ((fail_if_success (with_reducible show Q_ _ _)); (first | (k_unfold; (try dsimp only)) | (k_end; wrow_close) | (with_reducible first | ((show wpAny _ _ (call (Value.builtin _) _) _ _ _); k_here; (first | ((show wpAny _ _ (call (Value.builtin "len") _) _ _ _); (first | k_dflt (refine' m_lenL (by k_asm) (by k_mem) (by first | (show _ = (0 : Int); rfl) | (show _ = (1 : Int); rfl) | (show _ = (2 : Int); rfl) | (show _ = (3 : Int); rfl) | (show _ = (4 : Int); rfl)) (by decide) ?_) | k_dflt (refine' m_len (by k_asm) (by k_mem) (by tb_rel) ?_))) | ((first | ((show wpAny _ _ (call (Value.builtin "list.append") _) _ _ _); k_dflt (refine' m_append (by k_asm) (by k_asm) (by first | assumption | k_upd) (by tb_rel) ?_)) | ((show wpAny _ _ (call (Value.builtin "list.extend") _) _ _ _); (first | k_dflt (refine' m_extend_nil (by k_asm) (by k_asm) (by k_mem) (by k_upd) (by tb_rel) ?_) | k_dflt (refine' m_extend (by k_asm) (by k_asm) (by k_mem) (by kl_some) (by k_upd) (by tb_rel) (by tb_rel) ?_))) | ((show wpAny _ _ (call (Value.builtin "list.pop") _) _ _ _); k_dflt (refine' m_pop (by k_asm) (by k_asm) (by k_upd) (by tb_rel) ?_))); intro hw Fw Nw; (try simp only [List.cons_append, List.nil_append] at Nw); (try k_sweep)))) | ((show wpAny _ _ (setItem (Value.ref _) (Value.int _ _) _) _ _ _); k_here; k_dflt (refine' m_set (by k_asm) (by k_asm) (by k_upd) (by tb_rel) (by tb_rel) (by tb_rel) ?_); intro hw Fw Nw; (try simp only [List.cons_append, List.nil_append] at Nw); (try k_sweep)) | ((show WhlIf _ _ _); (first | (refine WhlIf.yes (decide_eq_true (by tb_rel)) ?_) | (refine WhlIf.no (decide_eq_false (by tb_rel)) ?_))) | ((first | show wpAny _ _ (exec (Stmt.For (PySem.Expr.Name _ _) (PySem.Expr.Name _ _) _ _ _) _) _ _ _ | show wpAny _ _ (exec (Stmt.For (PySem.Expr.Name _ _) (PySem.Expr.Subscript _ _ _) _ _ _) _) _ _ _); k_here; (rename Fr _ _ _ _ => Fw'); (with_unfolding_all refine' For_invVF Fw' (by exact rfl) (by exact rfl) ?_); k_whole) | ((show wpAny _ _ (pyIter (Value.ref _)) _ _ _); k_here; (rename Fr _ _ _ _ => Fw'); (rename News _ _ _ _ => Nw'); (first | (with_unfolding_all refine iter_listUnr (vs := [_]) (by rfl) Fw' Nw' (by k_mem) (by rfl) (by rfl) ?_) | (with_unfolding_all refine iter_listUnr (vs := [_, _]) (by rfl) Fw' Nw' (by k_mem) (by rfl) (by rfl) ?_)); clear Fw'; intro iw lw; (try k_lt lw)) | ((show wpAny _ _ (subscriptTail _ _ (Value.ref _) (Value.int _ _)) _ _ _); k_here; (first | k_dflt (refine' m_getT (by k_asm) (by k_mem) (by decide) (by first | decide | tb_rel) (by rfl) ?_ (by with_unfolding_all rfl)) | k_dflt (refine' m_get (by k_asm) (by k_mem) (by first | decide | tb_rel) (by first | decide | tb_rel) (by first | assumption | rfl) ?_ (by with_unfolding_all rfl) (by intro _; with_unfolding_all rfl)))) | ((show wpAny _ _ (callWith _ (Prod.fst (Value.builtin _, _)) (Prod.snd (_, _ :: _)) (backTo _ (starEach (_ :: _) _)) []) _ _ _); refine callWith_method1 ?_ (by with_unfolding_all rfl) (by with_unfolding_all rfl)) | ((show wpAny _ _ (compareOp _ (Value.str _ _) _) _ _ _); k_here; (first | ((show wpAny _ _ (compareOp CmpOp.Eq (Value.str _ _) (Value.str _ _)) _ _ _); refine m_eqS (by assumption) ?_) | ((show wpAny _ _ (compareOp CmpOp.In (Value.str _ _) (Value.ref _)) _ _ _); (first | k_dflt (refine' m_inT (by k_asm) (by k_mem) (by assumption) ?_) | k_dflt (refine' m_inTop (by k_asm) (by k_asm) (by k_is) (by kde_strs) (by first | assumption | rfl | decide) ?_))))) | ((show wpAny _ _ (binaryOp _ (Value.ref _) _) _ _ _); k_here; (first | ((show wpAny _ _ (binaryOp Operator.Add (Value.ref _) (Value.ref _)) _ _ _); k_dflt (refine' m_add (by k_asm) (by k_asm) (by k_mem) (by k_mem) (by tb_rel) (by tb_rel) ?_)) | ((show wpAny _ _ (binaryOp Operator.Mult (Value.ref _) (Value.int _ _)) _ _ _); k_dflt (refine' m_mul (by k_asm) (by k_asm) (by k_mem) (by rfl) (by omega) ?_))); intro Dw hw Fw Nw lw; (try k_lt lw); (try k_sweep))) | ((with_reducible show UnrEnd _ _ _ _ _ _ _); (rename Fr _ _ _ _ => uF); (rename News _ _ _ _ => uN); k_dflt (apply unr_off uF uN (by k_mem)); (· repeat (first | exact off_nil | (apply off_all; tbn_find) | apply off_eq | (apply off_ne; · k_ne))); refine ⟨by k_mem, ?_⟩) | walk1 | (dsimp only; walk1) | (leave1; (try dsimp only))))
    rename News _ _ _ _ => kN
    rename Fr _ _ _ _ => kF
    exact hret _ _ _ _ kF kN (hn _ _ _ _ _ ⟨news_one kN, ⟨_, by k_mem⟩, by k_mem, by k_mem⟩ (fun p hp => by repeat (first | exact hp | refine List.Mem.tail _ ?_)) (by k_mem) rfl)
/-- what a call of begun leaves for the loop of put -/
def PutAft (G : List Value → List Value → List (Addr × Obj) → Prop) (x dx wl ol : Addr) (hs : Int) (tk0 : Tok) (S : List Value) (n : Nat) (T2 : List (Addr × Obj)) (r : Value) : Prop :=
  ∃ (a : Addr) (ws O' : List Value) (n' k' : Nat), r = .ref a ∧ (a, listOf ws.toArray n') ∈ T2 ∧ (wl, listOf S.toArray n) ∈ T2 ∧ (ol, listOf O'.toArray k') ∈ T2 ∧ (x, instObj 94 dx) ∈ T2 ∧ (dx, dictOf [⟨hs, sv "orders" tk0, .ref ol⟩] 1) ∈ T2 ∧ wl ≠ a ∧ ws.length ≤ 10 ∧ G (S ++ ws.reverse) O' (off (off T2 wl) ol)
def BndAft (G : List Value → List Value → List (Addr × Obj) → Prop) (x dx wl ol : Addr) (hs : Int) (tk0 : Tok) (S : List Value) (n : Nat) (T2 : List (Addr × Obj)) (r : Value) : Prop :=
  r = .none ∧ ∃ (O' : List Value) (k' : Nat), (wl, listOf S.toArray n) ∈ T2 ∧ (ol, listOf O'.toArray k') ∈ T2 ∧ (x, instObj 94 dx) ∈ T2 ∧ (dx, dictOf [⟨hs, sv "orders" tk0, .ref ol⟩] 1) ∈ T2 ∧ G S O' (off (off T2 wl) ol)
def TurnPut (w : World) (x dx wl ol : Addr) (hs : Int) (tk0 : Tok) (G : List Value → List Value → List (Addr × Obj) → Prop) : Prop :=
  ∀ (S O : List Value) (T : List (Addr × Obj)) (t v : Addr) (t1 : Tok), (t, tupO [sv "put" t1, .ref v]) ∈ T → S.length ≤ 20000 → O.length ≤ 20000 →
    (OwnOff T [wl, ol] → ∀ n k, CallOf w 304 13 70 [.ref x, .ref v] ((ol, listOf O.toArray k) :: (x, instObj 94 dx) :: (dx, dictOf [⟨hs, sv "orders" tk0, .ref ol⟩] 1) :: (wl, listOf S.toArray n) :: T) (PutAft G x dx wl ol hs tk0 S n)) → G (S ++ [.ref t]) O T
def TurnBnd (w : World) (x dx wl ol : Addr) (hs : Int) (tk0 : Tok) (G : List Value → List Value → List (Addr × Obj) → Prop) : Prop :=
  ∀ (S O : List Value) (T : List (Addr × Obj)) (t e : Addr) (wd : String) (t1 : Tok), (Str.ofString wd == Str.ofString "put") = false → (Str.ofString wd == Str.ofString "emit") = false → (t, tupO [sv wd t1, .ref e]) ∈ T → S.length ≤ 20000 → O.length ≤ 20000 →
    (OwnOff T [wl, ol] → ∀ n k, CallOf w 304 13 91 [.ref x, sv wd t1, .ref e] ((ol, listOf O.toArray k) :: (x, instObj 94 dx) :: (dx, dictOf [⟨hs, sv "orders" tk0, .ref ol⟩] 1) :: (wl, listOf S.toArray n) :: T) (BndAft G x dx wl ol hs tk0 S n)) → G (S ++ [.ref t]) O T
section
variable {T T2 : List (Addr × Obj)} {x dx wl ol a r e : Addr} {hs : Int} {tk0 : Tok} {S O' ws : List Value} {n : Nat} {G : List Value → List Value → List (Addr × Obj) → Prop}
theorem own_cons (hT : OwnOff T [wl, ol]) (h : wl ≠ ol) : OwnOff ((wl, listOf S.toArray n) :: T) [ol] := fun p hp b hb => by
  rw [List.mem_singleton.mp hb]
  rcases List.mem_cons.mp hp with rfl | hp
  · exact h
  · exact hT p hp _ (.tail _ (.head _))
theorem tup_off2 {l : List Value} {i1 i2 : Array Value} {n1 n2 : Nat} (f : OneEach T2) (h1 : (wl, listOf i1 n1) ∈ T2) (h2 : (ol, listOf i2 n2) ∈ T2) (h : (r, tupO l) ∈ T2) : (r, tupO l) ∈ off (off T2 wl) ol :=
  mem_off.mpr ⟨tup_off f h1 h, (mem_off.mp (tup_off f h2 h)).2⟩
theorem aft_put (A : Aft ((wl, listOf S.toArray n) :: T) T2 x dx ol hs tk0 O' ws a) (hw : ws.length ≤ 10) (g : G (S ++ ws.reverse) O' (off (off T2 wl) ol)) : PutAft G x dx wl ol hs tk0 S n T2 (.ref a) := by
  obtain ⟨_, hs, ⟨k, ho⟩, hx, hd, ⟨n', ha⟩, hf⟩ := A
  exact ⟨a, ws, O', n', k, rfl, ha, hs _ (.head _), ho, hx, hd, hf _ (.head _), hw, g⟩
theorem aft_tup (A : Aft ((wl, listOf S.toArray n) :: T) T2 x dx ol hs tk0 O' ws a) {l : List Value} (h : (r, tupO l) ∈ T2) : (r, tupO l) ∈ off (off T2 wl) ol := by
  obtain ⟨f, hs, ⟨k, ho⟩, _⟩ := A
  exact tup_off2 f (hs _ (.head _)) ho h
theorem aft_sub (A : Aft ((wl, listOf S.toArray n) :: T) T2 x dx ol hs tk0 O' ws a) (hT : OwnOff T [wl, ol]) : ∀ p ∈ T, p ∈ off (off T2 wl) ol := sub_off2 hT fun p hp => A.2.1 p (.tail _ hp)
theorem fresh_off {o : Obj} (h : (e, o) ∈ T2) (h1 : ∀ p ∈ (wl, listOf S.toArray n) :: T, p.1 ≠ e) (h2 : ol ≠ e) : (e, o) ∈ off (off T2 wl) ol := mem_off2 h (h1 _ (.head _)) h2
theorem bnd_tup (B : Bft T2 x dx ol hs tk0 O') (hw : (wl, listOf S.toArray n) ∈ T2) {l : List Value} (h : (r, tupO l) ∈ T2) : (r, tupO l) ∈ off (off T2 wl) ol := by
  obtain ⟨f, ⟨k, ho⟩, _⟩ := B
  exact tup_off2 f hw ho h
theorem bnd_put (B : Bft T2 x dx ol hs tk0 O') (hw : (wl, listOf S.toArray n) ∈ T2) (g : G S O' (off (off T2 wl) ol)) : BndAft G x dx wl ol hs tk0 S n T2 .none := by
  obtain ⟨_, ⟨k, ho⟩, hx, hd⟩ := B
  exact ⟨rfl, O', k, hw, ho, hx, hd, g⟩
end
section
variable {w : World} {W : Shared → Prop} {s : Shared} {h₀ : Heap} {L x dx wl ol : Addr} {hs : Int} {tk0 : Tok}
theorem put_turns (sep : Sep wl ol x dx) (tPut : TurnPut w x dx wl ol hs tk0 (Good W s h₀ L x dx wl ol hs tk0)) (tBnd : TurnBnd w x dx wl ol hs tk0 (Good W s h₀ L x dx wl ol hs tk0)) :
    TurnOne (Good W s h₀ L x dx wl ol hs tk0) ∧ TurnMeet (Good W s h₀ L x dx wl ol hs tk0) ∧ TurnArbno (Good W s h₀ L x dx wl ol hs tk0) ∧ TurnLater (Good W s h₀ L x dx wl ol hs tk0) ∧ TurnNow (Good W s h₀ L x dx wl ol hs tk0) ∧ TurnAlt (Good W s h₀ L x dx wl ol hs tk0) ∧
    TurnOpen (Good W s h₀ L x dx wl ol hs tk0) ∧ TurnShut (Good W s h₀ L x dx wl ol hs tk0) ∧ TurnCat (Good W s h₀ L x dx wl ol hs tk0) := by
  obtain ⟨w1, w2, w3, w4, w5⟩ := sep
  refine ⟨?_, ?_, ?_, ?_, ?_, ?_, ?_, ?_, ?_⟩
  · intro S O T t v ks i t1 t2 t3 hone ht hv hS hO hn
    refine tPut S O T t v t1 ht hS hO fun hT n k => begun_c w x dx ol v hs tk0 O k _ _ (own_cons hT w1) w4 w5 hO (.inl ⟨ks, i, t2, t3, hone, .tail _ hv, fun T2 a r u1 u2 u3 A hr => ?_⟩)
    refine aft_put A (by decide) ?_
    rw [show S ++ ([] : List Value).reverse = S from List.append_nil S]
    exact hn _ _ _ _ _ (aft_sub A hT) (aft_tup A hr)
  · intro S O T t e ll v0 i n1 n2 t1 t2 ht he hll hi0 hi1 hS hO hn
    refine tBnd S O T t e "meet" t1 (by decide) (by decide) ht hS hO fun hT n k => bound_c w x dx ol e _ t1 hs tk0 O k _ _ (own_cons hT w1) w4 w5 hO (.inr (.inr ⟨rfl, ll, v0, i, t2, n1, n2, .tail _ he, .tail _ hll, hi0, hi1, fun T2 j u1 u2 i1 B hs hj e1 => ?_⟩))
    exact bnd_put B (hs _ (.head _)) (hn _ _ _ _ _ (sub_off2 hT fun p hp => hs p (.tail _ hp)) (bnd_tup B (hs _ (.head _)) hj) e1)
  · intro S O T t v v1 t1 t2 ht hv hS hO hn
    refine tPut S O T t v t1 ht hS hO fun hT n k => begun_c w x dx ol v hs tk0 O k _ _ (own_cons hT w1) w4 w5 hO (.inr (.inl ⟨v1, t2, .tail _ hv, ?_⟩))
    intro T2 a sp mk p1 p2 p3 p4 g j e ll n1 n2 u1 u2 u3 u4 u5 u6 u7 u8 u9 w1 w2 w3 i1 i2 i3 i4 A h1 h2 h3 h4 h5 h6 h7 h8 h9 h10 f1 f2 f3 f4 e1 e2 e3 e4
    exact aft_put A (by show 4 ≤ 10; decide) (hn _ _ _ _ _ _ _ _ _ _ _ _ _ _ _ _ _ _ _ _ _ _ _ _ _ _ _ _ _ (aft_sub A hT) (aft_tup A h1) (aft_tup A h2) (aft_tup A h3) (aft_tup A h4) (aft_tup A h5) (aft_tup A h6) (aft_tup A h7) (aft_tup A h8) (fresh_off h9 f1 f3) (fresh_off h10 f2 f4) e1 e2 e3 e4)
  · intro S O T t v v1 v2 t1 t2 ht hv hS hO hn
    refine tPut S O T t v t1 ht hS hO fun hT n k => begun_c w x dx ol v hs tk0 O k _ _ (own_cons hT w1) w4 w5 hO (.inr (.inr (.inl ⟨"later", "name", v1, v2, t2, .inl ⟨rfl, rfl⟩, .tail _ hv, fun T2 a mk p1 p2 g u1 u2 u3 u4 A h1 h2 h3 h4 => ?_⟩)))
    exact aft_put A (by show 2 ≤ 10; decide) (hn _ _ _ _ _ _ _ _ _ (aft_sub A hT) (aft_tup A h1) (aft_tup A h2) (aft_tup A h3) (aft_tup A h4))
  · intro S O T t v v1 v2 t1 t2 ht hv hS hO hn
    refine tPut S O T t v t1 ht hS hO fun hT n k => begun_c w x dx ol v hs tk0 O k _ _ (own_cons hT w1) w4 w5 hO (.inr (.inr (.inl ⟨"now", "set", v1, v2, t2, .inr ⟨rfl, rfl⟩, .tail _ hv, fun T2 a mk p1 p2 g u1 u2 u3 u4 A h1 h2 h3 h4 => ?_⟩)))
    exact aft_put A (by show 2 ≤ 10; decide) (hn _ _ _ _ _ _ _ _ _ (aft_sub A hT) (aft_tup A h1) (aft_tup A h2) (aft_tup A h3) (aft_tup A h4))
  · intro S O T t v c q v1 v2 i t1 t2 t3 t4 t5 ht hv hc hq hS hO hn
    refine tPut S O T t v t1 ht hS hO fun hT n k => begun_c w x dx ol v hs tk0 O k _ _ (own_cons hT w1) w4 w5 hO (.inr (.inr (.inr (.inl ⟨c, q, v1, v2, i, t2, t3, t4, t5, .tail _ hv, .tail _ hc, .tail _ hq, ?_⟩))))
    intro T2 a e ll p1 p2 p3 p4 p5 n1 n2 u1 u2 u3 u4 u5 u6 A h1 h2 h3 h4 h5 h6 h7 f1 f2 f3 f4 f5
    have tup : ∀ {a : Addr} {l : List Value}, (a, tupO l) ∈ T2 → (a, tupO l) ∈ off (off (off (off T2 wl) ol) e) ll := fun h => mem_off.mpr ⟨mem_off.mpr ⟨aft_tup A h, (mem_off.mp (tup_off A.1 h6 h)).2⟩, (mem_off.mp (tup_off A.1 h7 h)).2⟩
    refine aft_put A (by show 5 ≤ 10; decide) (good_of (sub_two (p := (e, listOf [Value.int (-1) u6, Value.ref ll].toArray n1)) (p' := (ll, listOf ([] : List Value).toArray n2)) (fresh_off h6 f1 f3) (fresh_off h7 f2 f4)) ?_)
    exact hn _ e ll p1 p2 p3 p4 p5 n1 n2 u1 u2 u3 u4 u5 u6 (fun p hp => mem_off.mpr ⟨mem_off.mpr ⟨aft_sub A hT p hp, f1 p (.tail _ hp)⟩, f2 p (.tail _ hp)⟩) (tup h1) (tup h2) (tup h3) (tup h4) (tup h5) f5 own_off2
  · intro S O T t e v0 v1 n1 t1 ht he hS hO hn
    refine tBnd S O _ t e "open" t1 (by decide) (by decide) (.tail _ ht) hS hO fun hT n k => bound_c w x dx ol e _ t1 hs tk0 O k _ _ (own_cons hT w1) w4 w5 hO (.inl ⟨rfl, v0, v1, n1, .tail _ (.head _), fun T2 n2 u1 i1 B hsub h1 e1 => ?_⟩)
    have hwe : wl ≠ e := Ne.symm (hT _ (.head _) _ (.head _))
    have hw := hsub _ (mem_off.mpr ⟨.head _, hwe⟩)
    refine bnd_put B hw (good_of (sub_one (p := (e, listOf [Value.int i1 u1, v1].toArray n2)) (mem_off2 h1 hwe (Ne.symm (hT _ (.head _) _ (.tail _ (.head _)))))) ?_)
    exact hn n2 u1 i1 _ (fun p hp => mem_off.mpr ⟨sub_off2 (fun q hq => hT q (.tail _ hq)) (fun q hq => hsub q (mem_off.mpr ⟨.tail _ (.tail _ hq), he q hq _ (.head _)⟩)) p hp, he p hp _ (.head _)⟩) own_off e1
  · intro S O T t e ll i n1 n2 t1 t2 ht he hll hi0 hi1 hS hO hn
    refine tBnd S O _ t e "shut" t1 (by decide) (by decide) (.tail _ ht) hS hO fun hT n k => bound_c w x dx ol e _ t1 hs tk0 O k _ _ (own_cons hT w1) w4 w5 hO (.inr (.inl ⟨rfl, ll, i, t2, n1, n2, .tail _ (.tail _ he), .tail _ (.head _), hll _ he _ (.head _), hi0, hi1, fun T2 sp n3 u1 u2 u3 i1 i2 B hsub h1 h2 e1 e2 => ?_⟩))
    have hwe : wl ≠ ll := Ne.symm (hT _ (.head _) _ (.head _))
    have hw := hsub _ (mem_off.mpr ⟨.head _, hwe⟩)
    refine bnd_put B hw (good_of (sub_one (p := (ll, listOf [Value.int i2 u3].toArray n3)) (mem_off2 h2 hwe (Ne.symm (hT _ (.head _) _ (.tail _ (.head _)))))) ?_)
    exact hn _ sp n3 u1 u2 u3 i1 i2 (fun p hp => mem_off.mpr ⟨sub_off2 (fun q hq => hT q (.tail _ hq)) (fun q hq => hsub q (mem_off.mpr ⟨.tail _ (.tail _ hq), hll q hq _ (.head _)⟩)) p hp, hll p hp _ (.head _)⟩) (mem_off.mpr ⟨bnd_tup B hw h1, (mem_off.mp (tup_off B.1 h2 h1)).2⟩) e1 e2
  · intro S O T t v c q ks rest i t1 t2 t3 t4 t5 hk1 hk2 ht hv hc hq hS hO hn
    refine tPut S O T t v t1 ht hS hO fun hT n k => begun_c w x dx ol v hs tk0 O k _ _ (own_cons hT w1) w4 w5 hO (.inr (.inr (.inr (.inr ⟨c, q, ks, rest, i, t2, t3, t4, t5, hk1, hk2, .tail _ hv, .tail _ hc, .tail _ hq, fun T2 a p1 p2 u1 u2 A h1 h2 => ?_⟩))))
    exact aft_put A (by show 2 ≤ 10; decide) (hn _ _ _ _ _ (aft_sub A hT) (aft_tup A h1) (aft_tup A h2))
end
section
variable {prog : Program} {w : World} {A : Around} {E : Value → Shared → Prop} {s : Shared} {env : Env} {test : PySem.Expr} {body orelse : List Stmt} {Q : Flow → Shared → Prop} {h₀ : Heap} {L x dx wl ol t : Addr} {hs : Int} {tk0 t1 : Tok} {n k : Nat} {v : Value} {T : List (Addr × Obj)} {m : Str → Option Value}
theorem put_run (nd : Nd) (F : Fr h₀ L s.heap m) (m1 : m (Str.ofString "self") = some (.ref x)) (m2 : m (Str.ofString "waiting") = some (.ref wl))
    (N : News h₀ L s.heap ((wl, listOf [Value.ref t].toArray n) :: (t, tupO [sv "put" t1, v]) :: (ol, listOf ([] : List Value).toArray k) :: (x, instObj 94 dx) :: (dx, dictOf [⟨hs, sv "orders" tk0, .ref ol⟩] 1) :: T))
    (sep : Sep wl ol x dx) (ht : wl ≠ t ∧ ol ≠ t) (hT : OwnOff T [wl, ol]) (hn : NodeIn T v nd) (hd : nd.depth ≤ 3000)
    (tPut : ∀ (x dx wl ol : Addr) (hs : Int) (tk0 : Tok), Sep wl ol x dx → TurnPut w x dx wl ol hs tk0 (Good (fun s => WhlRest prog w A E env test body orelse Q 0 s) s h₀ L x dx wl ol hs tk0))
    (tEmit : ∀ (x dx wl ol : Addr) (hs : Int) (tk0 : Tok), Sep wl ol x dx → TurnEmit (Good (fun s => WhlRest prog w A E env test body orelse Q 0 s) s h₀ L x dx wl ol hs tk0))
    (tBnd : ∀ (x dx wl ol : Addr) (hs : Int) (tk0 : Tok), Sep wl ol x dx → TurnBnd w x dx wl ol hs tk0 (Good (fun s => WhlRest prog w A E env test body orelse Q 0 s) s h₀ L x dx wl ol hs tk0))
    (done : Sep wl ol x dx → ∀ (O : List Value) (T' : List (Addr × Obj)), (∀ p ∈ T, p ∈ T') → OrdsIn T' O (code nd 0) → O.length ≤ 15000 → Good (fun s => WhlRest prog w A E env test body orelse Q 0 s) s h₀ L x dx wl ol hs tk0 [] O T') :
    WhlRest prog w A E env test body orelse Q 0 s := by
  obtain ⟨a1, a2, a3, a4, a5, a6, a7, a8, a9⟩ := put_turns sep (tPut x dx wl ol hs tk0 sep) (tBnd x dx wl ol hs tk0 sep)
  have g := put_all a1 (tEmit x dx wl ol hs tk0 sep) a2 a3 a4 a5 a6 a7 a8 a9 nd [] [] ((t, tupO [sv "put" t1, v]) :: T) t v t1 (hn.mono fun p hp => .tail _ hp) (.head _)
    (by simp only [List.length_nil]; omega) (by simp only [List.length_nil]; omega) (fun T' os h1 h2 => by
      have hl := h2.length
      simp only [List.length_nil] at hl
      have hc := code_length nd 0
      exact done sep ([] ++ os) T' (fun p hp => h1 p (.tail _ hp)) h2 (by simp only [List.nil_append]; omega))
  refine g s.heap s.toks m n k F m1 m2 (fun p hp => N p ?_) ?_
  · simp only [List.mem_cons] at hp ⊢
    rcases hp with h | h | h | h | h | h
    · exact .inl h
    · exact .inr (.inr (.inl h))
    · exact .inr (.inr (.inr (.inl h)))
    · exact .inr (.inr (.inr (.inr (.inl h))))
    · exact .inr (.inl h)
    · exact .inr (.inr (.inr (.inr (.inr h))))
  · intro p hp b hb
    rcases List.mem_cons.mp hp with rfl | hp
    · simp only [List.mem_cons, List.not_mem_nil, or_false] at hb
      rcases hb with rfl | rfl
      · exact Ne.symm ht.1
      · exact Ne.symm ht.2
    · exact hT p hp b hb
end
section
variable {prog : Program} {w : World} {A : Around} {E : Value → Shared → Prop} {s : Shared} {h₀ : Heap} {L D b : Addr} {m : Str → Option Value} {news news' : List (Addr × Obj)} {n n2 : Nat}
theorem m_extendA {p q : List Value} {Q : Value → Shared → Prop} (F : Fr h₀ L s.heap m) (N : News h₀ L s.heap news) (hb : (b, listOf q.toArray n2) ∈ news)
    (U : Upd D (listOf p.toArray n) (listOf (p ++ q).toArray (if q = [] then n else n + 1)) news news') (hz : p.length ≤ 100000) (hz2 : q.length ≤ 100000)
    (h : ∀ h', Fr h₀ L h' m → News h₀ L h' news' → Q .none { s with heap := h' }) : wpAny (model prog w) A (call (.builtin "list.extend") [.ref D, .ref b]) Q E s := by
  cases q with
  | nil => exact m_extend_nil F N hb (by simpa using U) hz h
  | cons y q => exact m_extend F N hb (by simp) (by simpa using U) hz hz2 h
end
theorem news_perm {h₀ h : Heap} {L : Addr} {a b c d : Addr × Obj} {T : List (Addr × Obj)} (N : News h₀ L h (a :: b :: c :: d :: T)) : News h₀ L h (b :: c :: d :: a :: T) := fun q hq => N q (by
  simp only [List.mem_cons] at hq ⊢
  rcases hq with h | h | h | h | h
  · exact .inr (.inl h)
  · exact .inr (.inr (.inl h))
  · exact .inr (.inr (.inr (.inl h)))
  · exact .inl h
  · exact .inr (.inr (.inr (.inr h))))
theorem news_put {h₀ h : Heap} {L wl ol : Addr} {a b c d e : Addr × Obj} {T : List (Addr × Obj)} (N : News h₀ L h T) (ha : a ∈ T) (hb : b ∈ T) (hc : c ∈ T) (hd : d ∈ T) (he : e ∈ T) : News h₀ L h (b :: a :: c :: d :: e :: off (off T wl) ol) := fun q hq => N q (by
  simp only [List.mem_cons] at hq
  rcases hq with rfl | rfl | rfl | rfl | rfl | h
  · exact hb
  · exact ha
  · exact hc
  · exact hd
  · exact he
  · exact (mem_off.mp (mem_off.mp h).1).1)
theorem put_perm {z a b c d e p : Addr × Obj} {T : List (Addr × Obj)} (hp : p ∈ b :: c :: d :: e :: T) : p ∈ z :: b :: a :: c :: d :: e :: T := by
  simp only [List.mem_cons] at hp ⊢
  rcases hp with h | h | h | h | h
  · exact .inr (.inl h)
  · exact .inr (.inr (.inr (.inl h)))
  · exact .inr (.inr (.inr (.inr (.inl h))))
  · exact .inr (.inr (.inr (.inr (.inr (.inl h)))))
  · exact .inr (.inr (.inr (.inr (.inr (.inr h)))))
set_option maxRecDepth 100000 in
set_option maxHeartbeats 16000000 in
theorem cp (w : World) (nd : Nd) (d : Addr) (T : List (Addr × Obj)) (hn : NodeIn T (.ref d) nd) (hd : nd.depth ≤ 3000) (hst : Straight (code nd 0 ++ [.done])) : CallOf w 302 7 112 [.ref d] T (fun T' r => ∃ a vs n, r = .ref a ∧ (∀ p ∈ T, p ∈ T') ∧ (a, listOf vs.toArray n) ∈ T' ∧ OrdsIn T' vs (code nd 0 ++ [.done])) := by
  w_top off
  unfold CallOf
  intro mg_ mb_ mean_ gd_ cn_ cs_ a_ ccd_ cl_ outer_ A_ base_ hb_ L_ m_ s_ Q_ E_ B_ F_ X_ N_ Tp_ hk_ hret
  refine wpAny_call ?_
  k_dflt ktr_enter
  repeat' ((fail_if_success (with_reducible show wpAny _ _ (exec (Stmt.While _ _ _ _) _) _ _ _)); (first | (k_unfold; (try dsimp only)) | (k_end; wrow_close) | (with_reducible first | ((show wpAny _ _ (call (Value.builtin _) _) _ _ _); k_here; (first | ((show wpAny _ _ (call (Value.builtin "len") _) _ _ _); (first | k_dflt (refine' m_lenL (by k_asm) (by k_mem) (by first | (show _ = (0 : Int); rfl) | (show _ = (1 : Int); rfl) | (show _ = (2 : Int); rfl) | (show _ = (3 : Int); rfl) | (show _ = (4 : Int); rfl)) (by decide) ?_) | k_dflt (refine' m_len (by k_asm) (by k_mem) (by tb_rel) ?_))) | ((first | ((show wpAny _ _ (call (Value.builtin "list.append") _) _ _ _); k_dflt (refine' m_append (by k_asm) (by k_asm) (by first | assumption | k_upd) (by tb_rel) ?_)) | ((show wpAny _ _ (call (Value.builtin "list.extend") _) _ _ _); (first | k_dflt (refine' m_extend_nil (by k_asm) (by k_asm) (by k_mem) (by k_upd) (by tb_rel) ?_) | k_dflt (refine' m_extend (by k_asm) (by k_asm) (by k_mem) (by kl_some) (by k_upd) (by tb_rel) (by tb_rel) ?_))) | ((show wpAny _ _ (call (Value.builtin "list.pop") _) _ _ _); k_dflt (refine' m_pop (by k_asm) (by k_asm) (by k_upd) (by tb_rel) ?_))); intro hw Fw Nw; (try simp only [List.cons_append, List.nil_append] at Nw); (try k_sweep)))) | ((show wpAny _ _ (setItem (Value.ref _) (Value.int _ _) _) _ _ _); k_here; k_dflt (refine' m_set (by k_asm) (by k_asm) (by k_upd) (by tb_rel) (by tb_rel) (by tb_rel) ?_); intro hw Fw Nw; (try simp only [List.cons_append, List.nil_append] at Nw); (try k_sweep)) | ((show WhlIf _ _ _); (first | (refine WhlIf.yes (decide_eq_true (by tb_rel)) ?_) | (refine WhlIf.no (decide_eq_false (by tb_rel)) ?_))) | ((first | show wpAny _ _ (exec (Stmt.For (PySem.Expr.Name _ _) (PySem.Expr.Name _ _) _ _ _) _) _ _ _ | show wpAny _ _ (exec (Stmt.For (PySem.Expr.Name _ _) (PySem.Expr.Subscript _ _ _) _ _ _) _) _ _ _); k_here; (rename Fr _ _ _ _ => Fw'); (with_unfolding_all refine' For_invVF Fw' (by exact rfl) (by exact rfl) ?_); k_whole) | ((show wpAny _ _ (pyIter (Value.ref _)) _ _ _); k_here; (rename Fr _ _ _ _ => Fw'); (rename News _ _ _ _ => Nw'); (first | (with_unfolding_all refine iter_listUnr (vs := [_]) (by rfl) Fw' Nw' (by k_mem) (by rfl) (by rfl) ?_) | (with_unfolding_all refine iter_listUnr (vs := [_, _]) (by rfl) Fw' Nw' (by k_mem) (by rfl) (by rfl) ?_)); clear Fw'; intro iw lw; (try k_lt lw)) | ((show wpAny _ _ (subscriptTail _ _ (Value.ref _) (Value.int _ _)) _ _ _); k_here; (first | k_dflt (refine' m_getT (by k_asm) (by k_mem) (by decide) (by first | decide | tb_rel) (by rfl) ?_ (by with_unfolding_all rfl)) | k_dflt (refine' m_get (by k_asm) (by k_mem) (by first | decide | tb_rel) (by first | decide | tb_rel) (by first | assumption | rfl) ?_ (by with_unfolding_all rfl) (by intro _; with_unfolding_all rfl)))) | ((show wpAny _ _ (callWith _ (Prod.fst (Value.builtin _, _)) (Prod.snd (_, _ :: _)) (backTo _ (starEach (_ :: _) _)) []) _ _ _); refine callWith_method1 ?_ (by with_unfolding_all rfl) (by with_unfolding_all rfl)) | ((show wpAny _ _ (compareOp _ (Value.str _ _) _) _ _ _); k_here; (first | ((show wpAny _ _ (compareOp CmpOp.Eq (Value.str _ _) (Value.str _ _)) _ _ _); refine m_eqS (by assumption) ?_) | ((show wpAny _ _ (compareOp CmpOp.In (Value.str _ _) (Value.ref _)) _ _ _); (first | k_dflt (refine' m_inT (by k_asm) (by k_mem) (by assumption) ?_) | k_dflt (refine' m_inTop (by k_asm) (by k_asm) (by k_is) (by kde_strs) (by first | assumption | rfl | decide) ?_))))) | ((show wpAny _ _ (binaryOp _ (Value.ref _) _) _ _ _); k_here; (first | ((show wpAny _ _ (binaryOp Operator.Add (Value.ref _) (Value.ref _)) _ _ _); k_dflt (refine' m_add (by k_asm) (by k_asm) (by k_mem) (by k_mem) (by tb_rel) (by tb_rel) ?_)) | ((show wpAny _ _ (binaryOp Operator.Mult (Value.ref _) (Value.int _ _)) _ _ _); k_dflt (refine' m_mul (by k_asm) (by k_asm) (by k_mem) (by rfl) (by omega) ?_))); intro Dw hw Fw Nw lw; (try k_lt lw); (try k_sweep))) | ((with_reducible show UnrEnd _ _ _ _ _ _ _); (rename Fr _ _ _ _ => uF); (rename News _ _ _ _ => uN); k_dflt (apply unr_off uF uN (by k_mem)); (· repeat (first | exact off_nil | (apply off_all; tbn_find) | apply off_eq | (apply off_ne; · k_ne))); refine ⟨by k_mem, ?_⟩) | walk1 | (dsimp only; walk1) | (leave1; (try dsimp only))))
  (k_dflt (refine whl_start 0 ?_))
  rename News _ _ _ _ => NN
  rename Fr _ _ _ _ => FF
  with_unfolding_all refine cut_pop FF ?pop fun pop => ?_
  case pop =>
    clear FF NN
    intro x wl t wd told S n T h tk u hS ht hT F' N'
    have a_t : wl ≠ t := Ne.symm (hT _ ht _ (.head _))
    replace N' := news_lits1 [(t, tupO [wd, told])] N' (List.forall_mem_cons.mpr ⟨ht, List.forall_mem_nil _⟩)
    simp only [List.cons_append, List.nil_append] at N'
    (try dsimp only)
    repeat' ((fail_if_success (with_reducible show PopPost _ _ _ _ _ _ _ _ _ _ _)); (first | (k_unfold; (try dsimp only)) | (k_end; wrow_close) | (with_reducible first | ((show wpAny _ _ (call (Value.builtin _) _) _ _ _); k_here; (first | ((show wpAny _ _ (call (Value.builtin "len") _) _ _ _); (first | k_dflt (refine' m_lenL (by k_asm) (by k_mem) (by first | (show _ = (0 : Int); rfl) | (show _ = (1 : Int); rfl) | (show _ = (2 : Int); rfl) | (show _ = (3 : Int); rfl) | (show _ = (4 : Int); rfl)) (by decide) ?_) | k_dflt (refine' m_len (by k_asm) (by k_mem) (by tb_rel) ?_))) | ((first | ((show wpAny _ _ (call (Value.builtin "list.append") _) _ _ _); k_dflt (refine' m_append (by k_asm) (by k_asm) (by first | assumption | k_upd) (by tb_rel) ?_)) | ((show wpAny _ _ (call (Value.builtin "list.extend") _) _ _ _); (first | k_dflt (refine' m_extend_nil (by k_asm) (by k_asm) (by k_mem) (by k_upd) (by tb_rel) ?_) | k_dflt (refine' m_extend (by k_asm) (by k_asm) (by k_mem) (by kl_some) (by k_upd) (by tb_rel) (by tb_rel) ?_))) | ((show wpAny _ _ (call (Value.builtin "list.pop") _) _ _ _); k_dflt (refine' m_pop (by k_asm) (by k_asm) (by k_upd) (by tb_rel) ?_))); intro hw Fw Nw; (try simp only [List.cons_append, List.nil_append] at Nw); (try k_sweep)))) | ((show wpAny _ _ (setItem (Value.ref _) (Value.int _ _) _) _ _ _); k_here; k_dflt (refine' m_set (by k_asm) (by k_asm) (by k_upd) (by tb_rel) (by tb_rel) (by tb_rel) ?_); intro hw Fw Nw; (try simp only [List.cons_append, List.nil_append] at Nw); (try k_sweep)) | ((show WhlIf _ _ _); (first | (refine WhlIf.yes (decide_eq_true (by tb_rel)) ?_) | (refine WhlIf.no (decide_eq_false (by tb_rel)) ?_))) | ((first | show wpAny _ _ (exec (Stmt.For (PySem.Expr.Name _ _) (PySem.Expr.Name _ _) _ _ _) _) _ _ _ | show wpAny _ _ (exec (Stmt.For (PySem.Expr.Name _ _) (PySem.Expr.Subscript _ _ _) _ _ _) _) _ _ _); k_here; (rename Fr _ _ _ _ => Fw'); (with_unfolding_all refine' For_invVF Fw' (by exact rfl) (by exact rfl) ?_); k_whole) | ((show wpAny _ _ (pyIter (Value.ref _)) _ _ _); k_here; (rename Fr _ _ _ _ => Fw'); (rename News _ _ _ _ => Nw'); (first | (with_unfolding_all refine iter_listUnr (vs := [_]) (by rfl) Fw' Nw' (by k_mem) (by rfl) (by rfl) ?_) | (with_unfolding_all refine iter_listUnr (vs := [_, _]) (by rfl) Fw' Nw' (by k_mem) (by rfl) (by rfl) ?_)); clear Fw'; intro iw lw; (try k_lt lw)) | ((show wpAny _ _ (subscriptTail _ _ (Value.ref _) (Value.int _ _)) _ _ _); k_here; (first | k_dflt (refine' m_getT (by k_asm) (by k_mem) (by decide) (by first | decide | tb_rel) (by rfl) ?_ (by with_unfolding_all rfl)) | k_dflt (refine' m_get (by k_asm) (by k_mem) (by first | decide | tb_rel) (by first | decide | tb_rel) (by first | assumption | rfl) ?_ (by with_unfolding_all rfl) (by intro _; with_unfolding_all rfl)))) | ((show wpAny _ _ (callWith _ (Prod.fst (Value.builtin _, _)) (Prod.snd (_, _ :: _)) (backTo _ (starEach (_ :: _) _)) []) _ _ _); refine callWith_method1 ?_ (by with_unfolding_all rfl) (by with_unfolding_all rfl)) | ((show wpAny _ _ (compareOp _ (Value.str _ _) _) _ _ _); k_here; (first | ((show wpAny _ _ (compareOp CmpOp.Eq (Value.str _ _) (Value.str _ _)) _ _ _); refine m_eqS (by assumption) ?_) | ((show wpAny _ _ (compareOp CmpOp.In (Value.str _ _) (Value.ref _)) _ _ _); (first | k_dflt (refine' m_inT (by k_asm) (by k_mem) (by assumption) ?_) | k_dflt (refine' m_inTop (by k_asm) (by k_asm) (by k_is) (by kde_strs) (by first | assumption | rfl | decide) ?_))))) | ((show wpAny _ _ (binaryOp _ (Value.ref _) _) _ _ _); k_here; (first | ((show wpAny _ _ (binaryOp Operator.Add (Value.ref _) (Value.ref _)) _ _ _); k_dflt (refine' m_add (by k_asm) (by k_asm) (by k_mem) (by k_mem) (by tb_rel) (by tb_rel) ?_)) | ((show wpAny _ _ (binaryOp Operator.Mult (Value.ref _) (Value.int _ _)) _ _ _); k_dflt (refine' m_mul (by k_asm) (by k_asm) (by k_mem) (by rfl) (by omega) ?_))); intro Dw hw Fw Nw lw; (try k_lt lw); (try k_sweep))) | ((with_reducible show UnrEnd _ _ _ _ _ _ _); (rename Fr _ _ _ _ => uF); (rename News _ _ _ _ => uN); k_dflt (apply unr_off uF uN (by k_mem)); (· repeat (first | exact off_nil | (apply off_all; tbn_find) | apply off_eq | (apply off_ne; · k_ne))); refine ⟨by k_mem, ?_⟩) | walk1 | (dsimp only; walk1) | (leave1; (try dsimp only))))
    rename Fr _ _ _ _ => kF
    rename News _ _ _ _ => kN
    exact pop_end kF kN rfl rfl rfl rfl (by k_mem) (fun p hp => by repeat (first | exact hp | refine List.Mem.tail _ ?_))
  refine put_run nd FF rfl rfl NN ?sep ?ht ?hT hn hd ?tPut ?tEmit ?tBnd ?done
  case sep => refine ⟨neN ?_, neN ?_, neN ?_, neN ?_, neN ?_⟩ <;> omega
  case ht => refine ⟨neN ?_, neN ?_⟩ <;> omega
  case hT =>
    rename ∀ p ∈ T, p.1 < _ => hlt
    intro p hp b hb
    have := ltN (hlt p hp)
    simp only [List.mem_cons, List.not_mem_nil, or_false] at hb
    rcases hb with rfl | rfl <;> (refine neN ?_; omega)
  case tPut =>
    clear NN FF
    intro x dx wl ol hs tk0 sep
    obtain ⟨w1, w2, w3, w4, w5⟩ := sep
    intro S O T t v t1 ht hS hO hB h tk m n k F' m1 m2 N' hT
    obtain ⟨u, F'⟩ := fr_two F' m1 m2
    clear m1 m2
    show WhlRest _ _ _ _ _ _ _ _ _ (0 + 1) _
    k_dflt (refine' whl_turn (k := 0) ?hE ?_; (case hE => first | passes_own | with_unfolding_all passes_own))
    (try k_sweep)
    repeat' ((fail_if_success (with_reducible show wpAny _ _ (execs (Stmt.Assign _ _ _ :: _) _) _ _ _)); (first | (k_unfold; (try dsimp only)) | (k_end; wrow_close) | (with_reducible first | ((show wpAny _ _ (call (Value.builtin _) _) _ _ _); k_here; (first | ((show wpAny _ _ (call (Value.builtin "len") _) _ _ _); (first | k_dflt (refine' m_lenL (by k_asm) (by k_mem) (by first | (show _ = (0 : Int); rfl) | (show _ = (1 : Int); rfl) | (show _ = (2 : Int); rfl) | (show _ = (3 : Int); rfl) | (show _ = (4 : Int); rfl)) (by decide) ?_) | k_dflt (refine' m_len (by k_asm) (by k_mem) (by tb_rel) ?_))) | ((first | ((show wpAny _ _ (call (Value.builtin "list.append") _) _ _ _); k_dflt (refine' m_append (by k_asm) (by k_asm) (by first | assumption | k_upd) (by tb_rel) ?_)) | ((show wpAny _ _ (call (Value.builtin "list.extend") _) _ _ _); (first | k_dflt (refine' m_extend_nil (by k_asm) (by k_asm) (by k_mem) (by k_upd) (by tb_rel) ?_) | k_dflt (refine' m_extend (by k_asm) (by k_asm) (by k_mem) (by kl_some) (by k_upd) (by tb_rel) (by tb_rel) ?_))) | ((show wpAny _ _ (call (Value.builtin "list.pop") _) _ _ _); k_dflt (refine' m_pop (by k_asm) (by k_asm) (by k_upd) (by tb_rel) ?_))); intro hw Fw Nw; (try simp only [List.cons_append, List.nil_append] at Nw); (try k_sweep)))) | ((show wpAny _ _ (setItem (Value.ref _) (Value.int _ _) _) _ _ _); k_here; k_dflt (refine' m_set (by k_asm) (by k_asm) (by k_upd) (by tb_rel) (by tb_rel) (by tb_rel) ?_); intro hw Fw Nw; (try simp only [List.cons_append, List.nil_append] at Nw); (try k_sweep)) | ((show WhlIf _ _ _); (first | (refine WhlIf.yes (decide_eq_true (by tb_rel)) ?_) | (refine WhlIf.no (decide_eq_false (by tb_rel)) ?_))) | ((first | show wpAny _ _ (exec (Stmt.For (PySem.Expr.Name _ _) (PySem.Expr.Name _ _) _ _ _) _) _ _ _ | show wpAny _ _ (exec (Stmt.For (PySem.Expr.Name _ _) (PySem.Expr.Subscript _ _ _) _ _ _) _) _ _ _); k_here; (rename Fr _ _ _ _ => Fw'); (with_unfolding_all refine' For_invVF Fw' (by exact rfl) (by exact rfl) ?_); k_whole) | ((show wpAny _ _ (pyIter (Value.ref _)) _ _ _); k_here; (rename Fr _ _ _ _ => Fw'); (rename News _ _ _ _ => Nw'); (first | (with_unfolding_all refine iter_listUnr (vs := [_]) (by rfl) Fw' Nw' (by k_mem) (by rfl) (by rfl) ?_) | (with_unfolding_all refine iter_listUnr (vs := [_, _]) (by rfl) Fw' Nw' (by k_mem) (by rfl) (by rfl) ?_)); clear Fw'; intro iw lw; (try k_lt lw)) | ((show wpAny _ _ (subscriptTail _ _ (Value.ref _) (Value.int _ _)) _ _ _); k_here; (first | k_dflt (refine' m_getT (by k_asm) (by k_mem) (by decide) (by first | decide | tb_rel) (by rfl) ?_ (by with_unfolding_all rfl)) | k_dflt (refine' m_get (by k_asm) (by k_mem) (by first | decide | tb_rel) (by first | decide | tb_rel) (by first | assumption | rfl) ?_ (by with_unfolding_all rfl) (by intro _; with_unfolding_all rfl)))) | ((show wpAny _ _ (callWith _ (Prod.fst (Value.builtin _, _)) (Prod.snd (_, _ :: _)) (backTo _ (starEach (_ :: _) _)) []) _ _ _); refine callWith_method1 ?_ (by with_unfolding_all rfl) (by with_unfolding_all rfl)) | ((show wpAny _ _ (compareOp _ (Value.str _ _) _) _ _ _); k_here; (first | ((show wpAny _ _ (compareOp CmpOp.Eq (Value.str _ _) (Value.str _ _)) _ _ _); refine m_eqS (by assumption) ?_) | ((show wpAny _ _ (compareOp CmpOp.In (Value.str _ _) (Value.ref _)) _ _ _); (first | k_dflt (refine' m_inT (by k_asm) (by k_mem) (by assumption) ?_) | k_dflt (refine' m_inTop (by k_asm) (by k_asm) (by k_is) (by kde_strs) (by first | assumption | rfl | decide) ?_))))) | ((show wpAny _ _ (binaryOp _ (Value.ref _) _) _ _ _); k_here; (first | ((show wpAny _ _ (binaryOp Operator.Add (Value.ref _) (Value.ref _)) _ _ _); k_dflt (refine' m_add (by k_asm) (by k_asm) (by k_mem) (by k_mem) (by tb_rel) (by tb_rel) ?_)) | ((show wpAny _ _ (binaryOp Operator.Mult (Value.ref _) (Value.int _ _)) _ _ _); k_dflt (refine' m_mul (by k_asm) (by k_asm) (by k_mem) (by rfl) (by omega) ?_))); intro Dw hw Fw Nw lw; (try k_lt lw); (try k_sweep))) | ((with_reducible show UnrEnd _ _ _ _ _ _ _); (rename Fr _ _ _ _ => uF); (rename News _ _ _ _ => uN); k_dflt (apply unr_off uF uN (by k_mem)); (· repeat (first | exact off_nil | (apply off_all; tbn_find) | apply off_eq | (apply off_ne; · k_ne))); refine ⟨by k_mem, ?_⟩) | walk1 | (dsimp only; walk1) | (leave1; (try dsimp only))))
    rename News _ _ _ _ => pN
    rename Fr _ _ _ _ => pF
    refine use_pop pop hS ht hT w1 w2 w3 pF pN ?_
    clear pF pN
    intro n h tk u F' N'
    (try dsimp only)
    repeat' ((fail_if_success (with_reducible show wpAny _ _ (call (Value.ref 70) _) _ _ _)); (first | (k_unfold; (try dsimp only)) | (k_end; wrow_close) | (with_reducible first | ((show wpAny _ _ (call (Value.builtin _) _) _ _ _); k_here; (first | ((show wpAny _ _ (call (Value.builtin "len") _) _ _ _); (first | k_dflt (refine' m_lenL (by k_asm) (by k_mem) (by first | (show _ = (0 : Int); rfl) | (show _ = (1 : Int); rfl) | (show _ = (2 : Int); rfl) | (show _ = (3 : Int); rfl) | (show _ = (4 : Int); rfl)) (by decide) ?_) | k_dflt (refine' m_len (by k_asm) (by k_mem) (by tb_rel) ?_))) | ((first | ((show wpAny _ _ (call (Value.builtin "list.append") _) _ _ _); k_dflt (refine' m_append (by k_asm) (by k_asm) (by first | assumption | k_upd) (by tb_rel) ?_)) | ((show wpAny _ _ (call (Value.builtin "list.extend") _) _ _ _); (first | k_dflt (refine' m_extend_nil (by k_asm) (by k_asm) (by k_mem) (by k_upd) (by tb_rel) ?_) | k_dflt (refine' m_extend (by k_asm) (by k_asm) (by k_mem) (by kl_some) (by k_upd) (by tb_rel) (by tb_rel) ?_))) | ((show wpAny _ _ (call (Value.builtin "list.pop") _) _ _ _); k_dflt (refine' m_pop (by k_asm) (by k_asm) (by k_upd) (by tb_rel) ?_))); intro hw Fw Nw; (try simp only [List.cons_append, List.nil_append] at Nw); (try k_sweep)))) | ((show wpAny _ _ (setItem (Value.ref _) (Value.int _ _) _) _ _ _); k_here; k_dflt (refine' m_set (by k_asm) (by k_asm) (by k_upd) (by tb_rel) (by tb_rel) (by tb_rel) ?_); intro hw Fw Nw; (try simp only [List.cons_append, List.nil_append] at Nw); (try k_sweep)) | ((show WhlIf _ _ _); (first | (refine WhlIf.yes (decide_eq_true (by tb_rel)) ?_) | (refine WhlIf.no (decide_eq_false (by tb_rel)) ?_))) | ((first | show wpAny _ _ (exec (Stmt.For (PySem.Expr.Name _ _) (PySem.Expr.Name _ _) _ _ _) _) _ _ _ | show wpAny _ _ (exec (Stmt.For (PySem.Expr.Name _ _) (PySem.Expr.Subscript _ _ _) _ _ _) _) _ _ _); k_here; (rename Fr _ _ _ _ => Fw'); (with_unfolding_all refine' For_invVF Fw' (by exact rfl) (by exact rfl) ?_); k_whole) | ((show wpAny _ _ (pyIter (Value.ref _)) _ _ _); k_here; (rename Fr _ _ _ _ => Fw'); (rename News _ _ _ _ => Nw'); (first | (with_unfolding_all refine iter_listUnr (vs := [_]) (by rfl) Fw' Nw' (by k_mem) (by rfl) (by rfl) ?_) | (with_unfolding_all refine iter_listUnr (vs := [_, _]) (by rfl) Fw' Nw' (by k_mem) (by rfl) (by rfl) ?_)); clear Fw'; intro iw lw; (try k_lt lw)) | ((show wpAny _ _ (subscriptTail _ _ (Value.ref _) (Value.int _ _)) _ _ _); k_here; (first | k_dflt (refine' m_getT (by k_asm) (by k_mem) (by decide) (by first | decide | tb_rel) (by rfl) ?_ (by with_unfolding_all rfl)) | k_dflt (refine' m_get (by k_asm) (by k_mem) (by first | decide | tb_rel) (by first | decide | tb_rel) (by first | assumption | rfl) ?_ (by with_unfolding_all rfl) (by intro _; with_unfolding_all rfl)))) | ((show wpAny _ _ (callWith _ (Prod.fst (Value.builtin _, _)) (Prod.snd (_, _ :: _)) (backTo _ (starEach (_ :: _) _)) []) _ _ _); refine callWith_method1 ?_ (by with_unfolding_all rfl) (by with_unfolding_all rfl)) | ((show wpAny _ _ (compareOp _ (Value.str _ _) _) _ _ _); k_here; (first | ((show wpAny _ _ (compareOp CmpOp.Eq (Value.str _ _) (Value.str _ _)) _ _ _); refine m_eqS (by assumption) ?_) | ((show wpAny _ _ (compareOp CmpOp.In (Value.str _ _) (Value.ref _)) _ _ _); (first | k_dflt (refine' m_inT (by k_asm) (by k_mem) (by assumption) ?_) | k_dflt (refine' m_inTop (by k_asm) (by k_asm) (by k_is) (by kde_strs) (by first | assumption | rfl | decide) ?_))))) | ((show wpAny _ _ (binaryOp _ (Value.ref _) _) _ _ _); k_here; (first | ((show wpAny _ _ (binaryOp Operator.Add (Value.ref _) (Value.ref _)) _ _ _); k_dflt (refine' m_add (by k_asm) (by k_asm) (by k_mem) (by k_mem) (by tb_rel) (by tb_rel) ?_)) | ((show wpAny _ _ (binaryOp Operator.Mult (Value.ref _) (Value.int _ _)) _ _ _); k_dflt (refine' m_mul (by k_asm) (by k_asm) (by k_mem) (by rfl) (by omega) ?_))); intro Dw hw Fw Nw lw; (try k_lt lw); (try k_sweep))) | ((with_reducible show UnrEnd _ _ _ _ _ _ _); (rename Fr _ _ _ _ => uF); (rename News _ _ _ _ => uN); k_dflt (apply unr_off uF uN (by k_mem)); (· repeat (first | exact off_nil | (apply off_all; tbn_find) | apply off_eq | (apply off_ne; · k_ne))); refine ⟨by k_mem, ?_⟩) | walk1 | (dsimp only; walk1) | (leave1; (try dsimp only))))
    rename News _ _ _ _ => eN
    rename Fr _ _ _ _ => eF
    have bN := news_perm eN
    refine hB hT n k _ _ _ _ _ _ _ _ _ _ _ _ _ _ _ _ _ _ (by assumption) eF (by k_asm) bN (by assumption) (by rfl) ?_
    clear eF eN bN hB
    rintro _ T2 h' tk' F' N' ⟨a, ws, O', n', k', rfl, q1, q2, q3, q4, q5, wa, hw, hG⟩
    replace N' := news_put (wl := wl) (ol := ol) N' q1 q2 q3 q4 q5
    clear q1 q2 q3 q4 q5
    have hT2 : OwnOff (off (off T2 wl) ol) [wl, ol] := own_off2
    (try dsimp only)
    repeat' ((fail_if_success (with_reducible show wpAny _ _ (subscriptTail _ _ (Value.ref _) (Value.ref _)) _ _ _)); (first | (k_unfold; (try dsimp only)) | (k_end; wrow_close) | (with_reducible first | ((show wpAny _ _ (call (Value.builtin _) _) _ _ _); k_here; (first | ((show wpAny _ _ (call (Value.builtin "len") _) _ _ _); (first | k_dflt (refine' m_lenL (by k_asm) (by k_mem) (by first | (show _ = (0 : Int); rfl) | (show _ = (1 : Int); rfl) | (show _ = (2 : Int); rfl) | (show _ = (3 : Int); rfl) | (show _ = (4 : Int); rfl)) (by decide) ?_) | k_dflt (refine' m_len (by k_asm) (by k_mem) (by tb_rel) ?_))) | ((first | ((show wpAny _ _ (call (Value.builtin "list.append") _) _ _ _); k_dflt (refine' m_append (by k_asm) (by k_asm) (by first | assumption | k_upd) (by tb_rel) ?_)) | ((show wpAny _ _ (call (Value.builtin "list.extend") _) _ _ _); (first | k_dflt (refine' m_extend_nil (by k_asm) (by k_asm) (by k_mem) (by k_upd) (by tb_rel) ?_) | k_dflt (refine' m_extend (by k_asm) (by k_asm) (by k_mem) (by kl_some) (by k_upd) (by tb_rel) (by tb_rel) ?_))) | ((show wpAny _ _ (call (Value.builtin "list.pop") _) _ _ _); k_dflt (refine' m_pop (by k_asm) (by k_asm) (by k_upd) (by tb_rel) ?_))); intro hw Fw Nw; (try simp only [List.cons_append, List.nil_append] at Nw); (try k_sweep)))) | ((show wpAny _ _ (setItem (Value.ref _) (Value.int _ _) _) _ _ _); k_here; k_dflt (refine' m_set (by k_asm) (by k_asm) (by k_upd) (by tb_rel) (by tb_rel) (by tb_rel) ?_); intro hw Fw Nw; (try simp only [List.cons_append, List.nil_append] at Nw); (try k_sweep)) | ((show WhlIf _ _ _); (first | (refine WhlIf.yes (decide_eq_true (by tb_rel)) ?_) | (refine WhlIf.no (decide_eq_false (by tb_rel)) ?_))) | ((first | show wpAny _ _ (exec (Stmt.For (PySem.Expr.Name _ _) (PySem.Expr.Name _ _) _ _ _) _) _ _ _ | show wpAny _ _ (exec (Stmt.For (PySem.Expr.Name _ _) (PySem.Expr.Subscript _ _ _) _ _ _) _) _ _ _); k_here; (rename Fr _ _ _ _ => Fw'); (with_unfolding_all refine' For_invVF Fw' (by exact rfl) (by exact rfl) ?_); k_whole) | ((show wpAny _ _ (pyIter (Value.ref _)) _ _ _); k_here; (rename Fr _ _ _ _ => Fw'); (rename News _ _ _ _ => Nw'); (first | (with_unfolding_all refine iter_listUnr (vs := [_]) (by rfl) Fw' Nw' (by k_mem) (by rfl) (by rfl) ?_) | (with_unfolding_all refine iter_listUnr (vs := [_, _]) (by rfl) Fw' Nw' (by k_mem) (by rfl) (by rfl) ?_)); clear Fw'; intro iw lw; (try k_lt lw)) | ((show wpAny _ _ (subscriptTail _ _ (Value.ref _) (Value.int _ _)) _ _ _); k_here; (first | k_dflt (refine' m_getT (by k_asm) (by k_mem) (by decide) (by first | decide | tb_rel) (by rfl) ?_ (by with_unfolding_all rfl)) | k_dflt (refine' m_get (by k_asm) (by k_mem) (by first | decide | tb_rel) (by first | decide | tb_rel) (by first | assumption | rfl) ?_ (by with_unfolding_all rfl) (by intro _; with_unfolding_all rfl)))) | ((show wpAny _ _ (callWith _ (Prod.fst (Value.builtin _, _)) (Prod.snd (_, _ :: _)) (backTo _ (starEach (_ :: _) _)) []) _ _ _); refine callWith_method1 ?_ (by with_unfolding_all rfl) (by with_unfolding_all rfl)) | ((show wpAny _ _ (compareOp _ (Value.str _ _) _) _ _ _); k_here; (first | ((show wpAny _ _ (compareOp CmpOp.Eq (Value.str _ _) (Value.str _ _)) _ _ _); refine m_eqS (by assumption) ?_) | ((show wpAny _ _ (compareOp CmpOp.In (Value.str _ _) (Value.ref _)) _ _ _); (first | k_dflt (refine' m_inT (by k_asm) (by k_mem) (by assumption) ?_) | k_dflt (refine' m_inTop (by k_asm) (by k_asm) (by k_is) (by kde_strs) (by first | assumption | rfl | decide) ?_))))) | ((show wpAny _ _ (binaryOp _ (Value.ref _) _) _ _ _); k_here; (first | ((show wpAny _ _ (binaryOp Operator.Add (Value.ref _) (Value.ref _)) _ _ _); k_dflt (refine' m_add (by k_asm) (by k_asm) (by k_mem) (by k_mem) (by tb_rel) (by tb_rel) ?_)) | ((show wpAny _ _ (binaryOp Operator.Mult (Value.ref _) (Value.int _ _)) _ _ _); k_dflt (refine' m_mul (by k_asm) (by k_asm) (by k_mem) (by rfl) (by omega) ?_))); intro Dw hw Fw Nw lw; (try k_lt lw); (try k_sweep))) | ((with_reducible show UnrEnd _ _ _ _ _ _ _); (rename Fr _ _ _ _ => uF); (rename News _ _ _ _ => uN); k_dflt (apply unr_off uF uN (by k_mem)); (· repeat (first | exact off_nil | (apply off_all; tbn_find) | apply off_eq | (apply off_ne; · k_ne))); refine ⟨by k_mem, ?_⟩) | walk1 | (dsimp only; walk1) | (leave1; (try dsimp only))))
    rename News _ _ _ _ => eN
    rename Fr _ _ _ _ => eF
    refine kba_turn (value' := PySem.Expr.Name (PySem.Str.ofString "_") ⟨0, 0, 0, 0⟩) (fun _ => rfl) ?_
    k_dflt (refine' krv_lit (its := ws.toArray) (zs := ws.reverse) eF eN ?l ?k ?e ?_ ?s ?t ?z; (case l => exact ⟨_, (eN _ (.tail _ (.head _))).1, rfl, _, rfl⟩); (case k => exact IsPart.int _ _); (case e => rfl); (case s => with_unfolding_all rfl); (case t => kmk_pure); (case z => simp only [sizeLine_eq, List.size_toArray]; omega))
    clear eF eN
    intro D' h' F' N' l1
    k_lt l1
    repeat' ((fail_if_success (with_reducible show wpAny _ _ (call (Value.builtin "list.extend") _) _ _ _)); (first | (k_unfold; (try dsimp only)) | (k_end; wrow_close) | (with_reducible first | ((show wpAny _ _ (call (Value.builtin _) _) _ _ _); k_here; (first | ((show wpAny _ _ (call (Value.builtin "len") _) _ _ _); (first | k_dflt (refine' m_lenL (by k_asm) (by k_mem) (by first | (show _ = (0 : Int); rfl) | (show _ = (1 : Int); rfl) | (show _ = (2 : Int); rfl) | (show _ = (3 : Int); rfl) | (show _ = (4 : Int); rfl)) (by decide) ?_) | k_dflt (refine' m_len (by k_asm) (by k_mem) (by tb_rel) ?_))) | ((first | ((show wpAny _ _ (call (Value.builtin "list.append") _) _ _ _); k_dflt (refine' m_append (by k_asm) (by k_asm) (by first | assumption | k_upd) (by tb_rel) ?_)) | ((show wpAny _ _ (call (Value.builtin "list.extend") _) _ _ _); (first | k_dflt (refine' m_extend_nil (by k_asm) (by k_asm) (by k_mem) (by k_upd) (by tb_rel) ?_) | k_dflt (refine' m_extend (by k_asm) (by k_asm) (by k_mem) (by kl_some) (by k_upd) (by tb_rel) (by tb_rel) ?_))) | ((show wpAny _ _ (call (Value.builtin "list.pop") _) _ _ _); k_dflt (refine' m_pop (by k_asm) (by k_asm) (by k_upd) (by tb_rel) ?_))); intro hw Fw Nw; (try simp only [List.cons_append, List.nil_append] at Nw); (try k_sweep)))) | ((show wpAny _ _ (setItem (Value.ref _) (Value.int _ _) _) _ _ _); k_here; k_dflt (refine' m_set (by k_asm) (by k_asm) (by k_upd) (by tb_rel) (by tb_rel) (by tb_rel) ?_); intro hw Fw Nw; (try simp only [List.cons_append, List.nil_append] at Nw); (try k_sweep)) | ((show WhlIf _ _ _); (first | (refine WhlIf.yes (decide_eq_true (by tb_rel)) ?_) | (refine WhlIf.no (decide_eq_false (by tb_rel)) ?_))) | ((first | show wpAny _ _ (exec (Stmt.For (PySem.Expr.Name _ _) (PySem.Expr.Name _ _) _ _ _) _) _ _ _ | show wpAny _ _ (exec (Stmt.For (PySem.Expr.Name _ _) (PySem.Expr.Subscript _ _ _) _ _ _) _) _ _ _); k_here; (rename Fr _ _ _ _ => Fw'); (with_unfolding_all refine' For_invVF Fw' (by exact rfl) (by exact rfl) ?_); k_whole) | ((show wpAny _ _ (pyIter (Value.ref _)) _ _ _); k_here; (rename Fr _ _ _ _ => Fw'); (rename News _ _ _ _ => Nw'); (first | (with_unfolding_all refine iter_listUnr (vs := [_]) (by rfl) Fw' Nw' (by k_mem) (by rfl) (by rfl) ?_) | (with_unfolding_all refine iter_listUnr (vs := [_, _]) (by rfl) Fw' Nw' (by k_mem) (by rfl) (by rfl) ?_)); clear Fw'; intro iw lw; (try k_lt lw)) | ((show wpAny _ _ (subscriptTail _ _ (Value.ref _) (Value.int _ _)) _ _ _); k_here; (first | k_dflt (refine' m_getT (by k_asm) (by k_mem) (by decide) (by first | decide | tb_rel) (by rfl) ?_ (by with_unfolding_all rfl)) | k_dflt (refine' m_get (by k_asm) (by k_mem) (by first | decide | tb_rel) (by first | decide | tb_rel) (by first | assumption | rfl) ?_ (by with_unfolding_all rfl) (by intro _; with_unfolding_all rfl)))) | ((show wpAny _ _ (callWith _ (Prod.fst (Value.builtin _, _)) (Prod.snd (_, _ :: _)) (backTo _ (starEach (_ :: _) _)) []) _ _ _); refine callWith_method1 ?_ (by with_unfolding_all rfl) (by with_unfolding_all rfl)) | ((show wpAny _ _ (compareOp _ (Value.str _ _) _) _ _ _); k_here; (first | ((show wpAny _ _ (compareOp CmpOp.Eq (Value.str _ _) (Value.str _ _)) _ _ _); refine m_eqS (by assumption) ?_) | ((show wpAny _ _ (compareOp CmpOp.In (Value.str _ _) (Value.ref _)) _ _ _); (first | k_dflt (refine' m_inT (by k_asm) (by k_mem) (by assumption) ?_) | k_dflt (refine' m_inTop (by k_asm) (by k_asm) (by k_is) (by kde_strs) (by first | assumption | rfl | decide) ?_))))) | ((show wpAny _ _ (binaryOp _ (Value.ref _) _) _ _ _); k_here; (first | ((show wpAny _ _ (binaryOp Operator.Add (Value.ref _) (Value.ref _)) _ _ _); k_dflt (refine' m_add (by k_asm) (by k_asm) (by k_mem) (by k_mem) (by tb_rel) (by tb_rel) ?_)) | ((show wpAny _ _ (binaryOp Operator.Mult (Value.ref _) (Value.int _ _)) _ _ _); k_dflt (refine' m_mul (by k_asm) (by k_asm) (by k_mem) (by rfl) (by omega) ?_))); intro Dw hw Fw Nw lw; (try k_lt lw); (try k_sweep))) | ((with_reducible show UnrEnd _ _ _ _ _ _ _); (rename Fr _ _ _ _ => uF); (rename News _ _ _ _ => uN); k_dflt (apply unr_off uF uN (by k_mem)); (· repeat (first | exact off_nil | (apply off_all; tbn_find) | apply off_eq | (apply off_ne; · k_ne))); refine ⟨by k_mem, ?_⟩) | walk1 | (dsimp only; walk1) | (leave1; (try dsimp only))))
    rename News _ _ _ _ => eN
    rename Fr _ _ _ _ => eF
    refine m_extendA eF eN (by k_mem) (by k_upd) (by omega) (by simp only [List.length_reverse]; omega) ?_
    clear eF eN
    intro h' F' N'
    (try dsimp only)
    repeat' ((fail_if_success (with_reducible show WhlRest _ _ _ _ _ _ _ _ _ 0 _)); (first | (k_unfold; (try dsimp only)) | (k_end; wrow_close) | (with_reducible first | ((show wpAny _ _ (call (Value.builtin _) _) _ _ _); k_here; (first | ((show wpAny _ _ (call (Value.builtin "len") _) _ _ _); (first | k_dflt (refine' m_lenL (by k_asm) (by k_mem) (by first | (show _ = (0 : Int); rfl) | (show _ = (1 : Int); rfl) | (show _ = (2 : Int); rfl) | (show _ = (3 : Int); rfl) | (show _ = (4 : Int); rfl)) (by decide) ?_) | k_dflt (refine' m_len (by k_asm) (by k_mem) (by tb_rel) ?_))) | ((first | ((show wpAny _ _ (call (Value.builtin "list.append") _) _ _ _); k_dflt (refine' m_append (by k_asm) (by k_asm) (by first | assumption | k_upd) (by tb_rel) ?_)) | ((show wpAny _ _ (call (Value.builtin "list.extend") _) _ _ _); (first | k_dflt (refine' m_extend_nil (by k_asm) (by k_asm) (by k_mem) (by k_upd) (by tb_rel) ?_) | k_dflt (refine' m_extend (by k_asm) (by k_asm) (by k_mem) (by kl_some) (by k_upd) (by tb_rel) (by tb_rel) ?_))) | ((show wpAny _ _ (call (Value.builtin "list.pop") _) _ _ _); k_dflt (refine' m_pop (by k_asm) (by k_asm) (by k_upd) (by tb_rel) ?_))); intro hw Fw Nw; (try simp only [List.cons_append, List.nil_append] at Nw); (try k_sweep)))) | ((show wpAny _ _ (setItem (Value.ref _) (Value.int _ _) _) _ _ _); k_here; k_dflt (refine' m_set (by k_asm) (by k_asm) (by k_upd) (by tb_rel) (by tb_rel) (by tb_rel) ?_); intro hw Fw Nw; (try simp only [List.cons_append, List.nil_append] at Nw); (try k_sweep)) | ((show WhlIf _ _ _); (first | (refine WhlIf.yes (decide_eq_true (by tb_rel)) ?_) | (refine WhlIf.no (decide_eq_false (by tb_rel)) ?_))) | ((first | show wpAny _ _ (exec (Stmt.For (PySem.Expr.Name _ _) (PySem.Expr.Name _ _) _ _ _) _) _ _ _ | show wpAny _ _ (exec (Stmt.For (PySem.Expr.Name _ _) (PySem.Expr.Subscript _ _ _) _ _ _) _) _ _ _); k_here; (rename Fr _ _ _ _ => Fw'); (with_unfolding_all refine' For_invVF Fw' (by exact rfl) (by exact rfl) ?_); k_whole) | ((show wpAny _ _ (pyIter (Value.ref _)) _ _ _); k_here; (rename Fr _ _ _ _ => Fw'); (rename News _ _ _ _ => Nw'); (first | (with_unfolding_all refine iter_listUnr (vs := [_]) (by rfl) Fw' Nw' (by k_mem) (by rfl) (by rfl) ?_) | (with_unfolding_all refine iter_listUnr (vs := [_, _]) (by rfl) Fw' Nw' (by k_mem) (by rfl) (by rfl) ?_)); clear Fw'; intro iw lw; (try k_lt lw)) | ((show wpAny _ _ (subscriptTail _ _ (Value.ref _) (Value.int _ _)) _ _ _); k_here; (first | k_dflt (refine' m_getT (by k_asm) (by k_mem) (by decide) (by first | decide | tb_rel) (by rfl) ?_ (by with_unfolding_all rfl)) | k_dflt (refine' m_get (by k_asm) (by k_mem) (by first | decide | tb_rel) (by first | decide | tb_rel) (by first | assumption | rfl) ?_ (by with_unfolding_all rfl) (by intro _; with_unfolding_all rfl)))) | ((show wpAny _ _ (callWith _ (Prod.fst (Value.builtin _, _)) (Prod.snd (_, _ :: _)) (backTo _ (starEach (_ :: _) _)) []) _ _ _); refine callWith_method1 ?_ (by with_unfolding_all rfl) (by with_unfolding_all rfl)) | ((show wpAny _ _ (compareOp _ (Value.str _ _) _) _ _ _); k_here; (first | ((show wpAny _ _ (compareOp CmpOp.Eq (Value.str _ _) (Value.str _ _)) _ _ _); refine m_eqS (by assumption) ?_) | ((show wpAny _ _ (compareOp CmpOp.In (Value.str _ _) (Value.ref _)) _ _ _); (first | k_dflt (refine' m_inT (by k_asm) (by k_mem) (by assumption) ?_) | k_dflt (refine' m_inTop (by k_asm) (by k_asm) (by k_is) (by kde_strs) (by first | assumption | rfl | decide) ?_))))) | ((show wpAny _ _ (binaryOp _ (Value.ref _) _) _ _ _); k_here; (first | ((show wpAny _ _ (binaryOp Operator.Add (Value.ref _) (Value.ref _)) _ _ _); k_dflt (refine' m_add (by k_asm) (by k_asm) (by k_mem) (by k_mem) (by tb_rel) (by tb_rel) ?_)) | ((show wpAny _ _ (binaryOp Operator.Mult (Value.ref _) (Value.int _ _)) _ _ _); k_dflt (refine' m_mul (by k_asm) (by k_asm) (by k_mem) (by rfl) (by omega) ?_))); intro Dw hw Fw Nw lw; (try k_lt lw); (try k_sweep))) | ((with_reducible show UnrEnd _ _ _ _ _ _ _); (rename Fr _ _ _ _ => uF); (rename News _ _ _ _ => uN); k_dflt (apply unr_off uF uN (by k_mem)); (· repeat (first | exact off_nil | (apply off_all; tbn_find) | apply off_eq | (apply off_ne; · k_ne))); refine ⟨by k_mem, ?_⟩) | walk1 | (dsimp only; walk1) | (leave1; (try dsimp only))))
    rename Fr _ _ _ _ => kF
    rename News _ _ _ _ => kN
    exact hG _ _ _ _ _ kF rfl rfl (fun p hp => kN p (put_perm hp)) hT2
  case tEmit =>
    clear NN FF
    intro x dx wl ol hs tk0 sep
    obtain ⟨w1, w2, w3, w4, w5⟩ := sep
    intro S O T t o t1 ht hS hO hn h tk m n k F' m1 m2 N' hT
    obtain ⟨u, F'⟩ := fr_two F' m1 m2
    clear m1 m2
    show WhlRest _ _ _ _ _ _ _ _ _ (0 + 1) _
    k_dflt (refine' whl_turn (k := 0) ?hE ?_; (case hE => first | passes_own | with_unfolding_all passes_own))
    (try k_sweep)
    repeat' ((fail_if_success (with_reducible show wpAny _ _ (execs (Stmt.Assign _ _ _ :: _) _) _ _ _)); (first | (k_unfold; (try dsimp only)) | (k_end; wrow_close) | (with_reducible first | ((show wpAny _ _ (call (Value.builtin _) _) _ _ _); k_here; (first | ((show wpAny _ _ (call (Value.builtin "len") _) _ _ _); (first | k_dflt (refine' m_lenL (by k_asm) (by k_mem) (by first | (show _ = (0 : Int); rfl) | (show _ = (1 : Int); rfl) | (show _ = (2 : Int); rfl) | (show _ = (3 : Int); rfl) | (show _ = (4 : Int); rfl)) (by decide) ?_) | k_dflt (refine' m_len (by k_asm) (by k_mem) (by tb_rel) ?_))) | ((first | ((show wpAny _ _ (call (Value.builtin "list.append") _) _ _ _); k_dflt (refine' m_append (by k_asm) (by k_asm) (by first | assumption | k_upd) (by tb_rel) ?_)) | ((show wpAny _ _ (call (Value.builtin "list.extend") _) _ _ _); (first | k_dflt (refine' m_extend_nil (by k_asm) (by k_asm) (by k_mem) (by k_upd) (by tb_rel) ?_) | k_dflt (refine' m_extend (by k_asm) (by k_asm) (by k_mem) (by kl_some) (by k_upd) (by tb_rel) (by tb_rel) ?_))) | ((show wpAny _ _ (call (Value.builtin "list.pop") _) _ _ _); k_dflt (refine' m_pop (by k_asm) (by k_asm) (by k_upd) (by tb_rel) ?_))); intro hw Fw Nw; (try simp only [List.cons_append, List.nil_append] at Nw); (try k_sweep)))) | ((show wpAny _ _ (setItem (Value.ref _) (Value.int _ _) _) _ _ _); k_here; k_dflt (refine' m_set (by k_asm) (by k_asm) (by k_upd) (by tb_rel) (by tb_rel) (by tb_rel) ?_); intro hw Fw Nw; (try simp only [List.cons_append, List.nil_append] at Nw); (try k_sweep)) | ((show WhlIf _ _ _); (first | (refine WhlIf.yes (decide_eq_true (by tb_rel)) ?_) | (refine WhlIf.no (decide_eq_false (by tb_rel)) ?_))) | ((first | show wpAny _ _ (exec (Stmt.For (PySem.Expr.Name _ _) (PySem.Expr.Name _ _) _ _ _) _) _ _ _ | show wpAny _ _ (exec (Stmt.For (PySem.Expr.Name _ _) (PySem.Expr.Subscript _ _ _) _ _ _) _) _ _ _); k_here; (rename Fr _ _ _ _ => Fw'); (with_unfolding_all refine' For_invVF Fw' (by exact rfl) (by exact rfl) ?_); k_whole) | ((show wpAny _ _ (pyIter (Value.ref _)) _ _ _); k_here; (rename Fr _ _ _ _ => Fw'); (rename News _ _ _ _ => Nw'); (first | (with_unfolding_all refine iter_listUnr (vs := [_]) (by rfl) Fw' Nw' (by k_mem) (by rfl) (by rfl) ?_) | (with_unfolding_all refine iter_listUnr (vs := [_, _]) (by rfl) Fw' Nw' (by k_mem) (by rfl) (by rfl) ?_)); clear Fw'; intro iw lw; (try k_lt lw)) | ((show wpAny _ _ (subscriptTail _ _ (Value.ref _) (Value.int _ _)) _ _ _); k_here; (first | k_dflt (refine' m_getT (by k_asm) (by k_mem) (by decide) (by first | decide | tb_rel) (by rfl) ?_ (by with_unfolding_all rfl)) | k_dflt (refine' m_get (by k_asm) (by k_mem) (by first | decide | tb_rel) (by first | decide | tb_rel) (by first | assumption | rfl) ?_ (by with_unfolding_all rfl) (by intro _; with_unfolding_all rfl)))) | ((show wpAny _ _ (callWith _ (Prod.fst (Value.builtin _, _)) (Prod.snd (_, _ :: _)) (backTo _ (starEach (_ :: _) _)) []) _ _ _); refine callWith_method1 ?_ (by with_unfolding_all rfl) (by with_unfolding_all rfl)) | ((show wpAny _ _ (compareOp _ (Value.str _ _) _) _ _ _); k_here; (first | ((show wpAny _ _ (compareOp CmpOp.Eq (Value.str _ _) (Value.str _ _)) _ _ _); refine m_eqS (by assumption) ?_) | ((show wpAny _ _ (compareOp CmpOp.In (Value.str _ _) (Value.ref _)) _ _ _); (first | k_dflt (refine' m_inT (by k_asm) (by k_mem) (by assumption) ?_) | k_dflt (refine' m_inTop (by k_asm) (by k_asm) (by k_is) (by kde_strs) (by first | assumption | rfl | decide) ?_))))) | ((show wpAny _ _ (binaryOp _ (Value.ref _) _) _ _ _); k_here; (first | ((show wpAny _ _ (binaryOp Operator.Add (Value.ref _) (Value.ref _)) _ _ _); k_dflt (refine' m_add (by k_asm) (by k_asm) (by k_mem) (by k_mem) (by tb_rel) (by tb_rel) ?_)) | ((show wpAny _ _ (binaryOp Operator.Mult (Value.ref _) (Value.int _ _)) _ _ _); k_dflt (refine' m_mul (by k_asm) (by k_asm) (by k_mem) (by rfl) (by omega) ?_))); intro Dw hw Fw Nw lw; (try k_lt lw); (try k_sweep))) | ((with_reducible show UnrEnd _ _ _ _ _ _ _); (rename Fr _ _ _ _ => uF); (rename News _ _ _ _ => uN); k_dflt (apply unr_off uF uN (by k_mem)); (· repeat (first | exact off_nil | (apply off_all; tbn_find) | apply off_eq | (apply off_ne; · k_ne))); refine ⟨by k_mem, ?_⟩) | walk1 | (dsimp only; walk1) | (leave1; (try dsimp only))))
    rename News _ _ _ _ => pN
    rename Fr _ _ _ _ => pF
    refine use_pop pop hS ht hT w1 w2 w3 pF pN ?_
    clear pF pN
    intro n h tk u F' N'
    (try dsimp only)
    replace N' := news_lits [(t, tupO [sv "emit" t1, .ref o])] N' (List.forall_mem_cons.mpr ⟨ht, List.forall_mem_nil _⟩)
    simp only [List.cons_append, List.nil_append] at N'
    have b_t : ol ≠ t := Ne.symm (hT _ ht _ (.tail _ (.head _)))
    repeat' ((fail_if_success (with_reducible show wpAny _ _ (call (Value.ref 58) _) _ _ _)); (first | (k_unfold; (try dsimp only)) | (k_end; wrow_close) | (with_reducible first | ((show wpAny _ _ (call (Value.builtin _) _) _ _ _); k_here; (first | ((show wpAny _ _ (call (Value.builtin "len") _) _ _ _); (first | k_dflt (refine' m_lenL (by k_asm) (by k_mem) (by first | (show _ = (0 : Int); rfl) | (show _ = (1 : Int); rfl) | (show _ = (2 : Int); rfl) | (show _ = (3 : Int); rfl) | (show _ = (4 : Int); rfl)) (by decide) ?_) | k_dflt (refine' m_len (by k_asm) (by k_mem) (by tb_rel) ?_))) | ((first | ((show wpAny _ _ (call (Value.builtin "list.append") _) _ _ _); k_dflt (refine' m_append (by k_asm) (by k_asm) (by first | assumption | k_upd) (by tb_rel) ?_)) | ((show wpAny _ _ (call (Value.builtin "list.extend") _) _ _ _); (first | k_dflt (refine' m_extend_nil (by k_asm) (by k_asm) (by k_mem) (by k_upd) (by tb_rel) ?_) | k_dflt (refine' m_extend (by k_asm) (by k_asm) (by k_mem) (by kl_some) (by k_upd) (by tb_rel) (by tb_rel) ?_))) | ((show wpAny _ _ (call (Value.builtin "list.pop") _) _ _ _); k_dflt (refine' m_pop (by k_asm) (by k_asm) (by k_upd) (by tb_rel) ?_))); intro hw Fw Nw; (try simp only [List.cons_append, List.nil_append] at Nw); (try k_sweep)))) | ((show wpAny _ _ (setItem (Value.ref _) (Value.int _ _) _) _ _ _); k_here; k_dflt (refine' m_set (by k_asm) (by k_asm) (by k_upd) (by tb_rel) (by tb_rel) (by tb_rel) ?_); intro hw Fw Nw; (try simp only [List.cons_append, List.nil_append] at Nw); (try k_sweep)) | ((show WhlIf _ _ _); (first | (refine WhlIf.yes (decide_eq_true (by tb_rel)) ?_) | (refine WhlIf.no (decide_eq_false (by tb_rel)) ?_))) | ((first | show wpAny _ _ (exec (Stmt.For (PySem.Expr.Name _ _) (PySem.Expr.Name _ _) _ _ _) _) _ _ _ | show wpAny _ _ (exec (Stmt.For (PySem.Expr.Name _ _) (PySem.Expr.Subscript _ _ _) _ _ _) _) _ _ _); k_here; (rename Fr _ _ _ _ => Fw'); (with_unfolding_all refine' For_invVF Fw' (by exact rfl) (by exact rfl) ?_); k_whole) | ((show wpAny _ _ (pyIter (Value.ref _)) _ _ _); k_here; (rename Fr _ _ _ _ => Fw'); (rename News _ _ _ _ => Nw'); (first | (with_unfolding_all refine iter_listUnr (vs := [_]) (by rfl) Fw' Nw' (by k_mem) (by rfl) (by rfl) ?_) | (with_unfolding_all refine iter_listUnr (vs := [_, _]) (by rfl) Fw' Nw' (by k_mem) (by rfl) (by rfl) ?_)); clear Fw'; intro iw lw; (try k_lt lw)) | ((show wpAny _ _ (subscriptTail _ _ (Value.ref _) (Value.int _ _)) _ _ _); k_here; (first | k_dflt (refine' m_getT (by k_asm) (by k_mem) (by decide) (by first | decide | tb_rel) (by rfl) ?_ (by with_unfolding_all rfl)) | k_dflt (refine' m_get (by k_asm) (by k_mem) (by first | decide | tb_rel) (by first | decide | tb_rel) (by first | assumption | rfl) ?_ (by with_unfolding_all rfl) (by intro _; with_unfolding_all rfl)))) | ((show wpAny _ _ (callWith _ (Prod.fst (Value.builtin _, _)) (Prod.snd (_, _ :: _)) (backTo _ (starEach (_ :: _) _)) []) _ _ _); refine callWith_method1 ?_ (by with_unfolding_all rfl) (by with_unfolding_all rfl)) | ((show wpAny _ _ (compareOp _ (Value.str _ _) _) _ _ _); k_here; (first | ((show wpAny _ _ (compareOp CmpOp.Eq (Value.str _ _) (Value.str _ _)) _ _ _); refine m_eqS (by assumption) ?_) | ((show wpAny _ _ (compareOp CmpOp.In (Value.str _ _) (Value.ref _)) _ _ _); (first | k_dflt (refine' m_inT (by k_asm) (by k_mem) (by assumption) ?_) | k_dflt (refine' m_inTop (by k_asm) (by k_asm) (by k_is) (by kde_strs) (by first | assumption | rfl | decide) ?_))))) | ((show wpAny _ _ (binaryOp _ (Value.ref _) _) _ _ _); k_here; (first | ((show wpAny _ _ (binaryOp Operator.Add (Value.ref _) (Value.ref _)) _ _ _); k_dflt (refine' m_add (by k_asm) (by k_asm) (by k_mem) (by k_mem) (by tb_rel) (by tb_rel) ?_)) | ((show wpAny _ _ (binaryOp Operator.Mult (Value.ref _) (Value.int _ _)) _ _ _); k_dflt (refine' m_mul (by k_asm) (by k_asm) (by k_mem) (by rfl) (by omega) ?_))); intro Dw hw Fw Nw lw; (try k_lt lw); (try k_sweep))) | ((with_reducible show UnrEnd _ _ _ _ _ _ _); (rename Fr _ _ _ _ => uF); (rename News _ _ _ _ => uN); k_dflt (apply unr_off uF uN (by k_mem)); (· repeat (first | exact off_nil | (apply off_all; tbn_find) | apply off_eq | (apply off_ne; · k_ne))); refine ⟨by k_mem, ?_⟩) | walk1 | (dsimp only; walk1) | (leave1; (try dsimp only))))
    rename News _ _ _ _ => eN
    rename Fr _ _ _ _ => eF
    refine emit_c _ 304 13 (by exact Nat.le_of_ble_eq_true rfl) (by exact Nat.le_of_ble_eq_true rfl) x dx ol hs tk0 _ _ _ _ _ (by k_mem) (by k_mem) (by k_upd) w4 w5 (by tb_rel) _ _ _ _ _ _ _ _ _ _ _ _ _ _ _ _ _ _ (by assumption) eF (by k_asm) eN (by assumption) (by rfl) ?_
    clear eF eN
    rintro _ _ h' tk' F' N' ⟨rfl, ie1, te1, rfl, hie1⟩
    (try dsimp only)
    repeat' ((fail_if_success (with_reducible show WhlRest _ _ _ _ _ _ _ _ _ 0 _)); (first | (k_unfold; (try dsimp only)) | (k_end; wrow_close) | (with_reducible first | ((show wpAny _ _ (call (Value.builtin _) _) _ _ _); k_here; (first | ((show wpAny _ _ (call (Value.builtin "len") _) _ _ _); (first | k_dflt (refine' m_lenL (by k_asm) (by k_mem) (by first | (show _ = (0 : Int); rfl) | (show _ = (1 : Int); rfl) | (show _ = (2 : Int); rfl) | (show _ = (3 : Int); rfl) | (show _ = (4 : Int); rfl)) (by decide) ?_) | k_dflt (refine' m_len (by k_asm) (by k_mem) (by tb_rel) ?_))) | ((first | ((show wpAny _ _ (call (Value.builtin "list.append") _) _ _ _); k_dflt (refine' m_append (by k_asm) (by k_asm) (by first | assumption | k_upd) (by tb_rel) ?_)) | ((show wpAny _ _ (call (Value.builtin "list.extend") _) _ _ _); (first | k_dflt (refine' m_extend_nil (by k_asm) (by k_asm) (by k_mem) (by k_upd) (by tb_rel) ?_) | k_dflt (refine' m_extend (by k_asm) (by k_asm) (by k_mem) (by kl_some) (by k_upd) (by tb_rel) (by tb_rel) ?_))) | ((show wpAny _ _ (call (Value.builtin "list.pop") _) _ _ _); k_dflt (refine' m_pop (by k_asm) (by k_asm) (by k_upd) (by tb_rel) ?_))); intro hw Fw Nw; (try simp only [List.cons_append, List.nil_append] at Nw); (try k_sweep)))) | ((show wpAny _ _ (setItem (Value.ref _) (Value.int _ _) _) _ _ _); k_here; k_dflt (refine' m_set (by k_asm) (by k_asm) (by k_upd) (by tb_rel) (by tb_rel) (by tb_rel) ?_); intro hw Fw Nw; (try simp only [List.cons_append, List.nil_append] at Nw); (try k_sweep)) | ((show WhlIf _ _ _); (first | (refine WhlIf.yes (decide_eq_true (by tb_rel)) ?_) | (refine WhlIf.no (decide_eq_false (by tb_rel)) ?_))) | ((first | show wpAny _ _ (exec (Stmt.For (PySem.Expr.Name _ _) (PySem.Expr.Name _ _) _ _ _) _) _ _ _ | show wpAny _ _ (exec (Stmt.For (PySem.Expr.Name _ _) (PySem.Expr.Subscript _ _ _) _ _ _) _) _ _ _); k_here; (rename Fr _ _ _ _ => Fw'); (with_unfolding_all refine' For_invVF Fw' (by exact rfl) (by exact rfl) ?_); k_whole) | ((show wpAny _ _ (pyIter (Value.ref _)) _ _ _); k_here; (rename Fr _ _ _ _ => Fw'); (rename News _ _ _ _ => Nw'); (first | (with_unfolding_all refine iter_listUnr (vs := [_]) (by rfl) Fw' Nw' (by k_mem) (by rfl) (by rfl) ?_) | (with_unfolding_all refine iter_listUnr (vs := [_, _]) (by rfl) Fw' Nw' (by k_mem) (by rfl) (by rfl) ?_)); clear Fw'; intro iw lw; (try k_lt lw)) | ((show wpAny _ _ (subscriptTail _ _ (Value.ref _) (Value.int _ _)) _ _ _); k_here; (first | k_dflt (refine' m_getT (by k_asm) (by k_mem) (by decide) (by first | decide | tb_rel) (by rfl) ?_ (by with_unfolding_all rfl)) | k_dflt (refine' m_get (by k_asm) (by k_mem) (by first | decide | tb_rel) (by first | decide | tb_rel) (by first | assumption | rfl) ?_ (by with_unfolding_all rfl) (by intro _; with_unfolding_all rfl)))) | ((show wpAny _ _ (callWith _ (Prod.fst (Value.builtin _, _)) (Prod.snd (_, _ :: _)) (backTo _ (starEach (_ :: _) _)) []) _ _ _); refine callWith_method1 ?_ (by with_unfolding_all rfl) (by with_unfolding_all rfl)) | ((show wpAny _ _ (compareOp _ (Value.str _ _) _) _ _ _); k_here; (first | ((show wpAny _ _ (compareOp CmpOp.Eq (Value.str _ _) (Value.str _ _)) _ _ _); refine m_eqS (by assumption) ?_) | ((show wpAny _ _ (compareOp CmpOp.In (Value.str _ _) (Value.ref _)) _ _ _); (first | k_dflt (refine' m_inT (by k_asm) (by k_mem) (by assumption) ?_) | k_dflt (refine' m_inTop (by k_asm) (by k_asm) (by k_is) (by kde_strs) (by first | assumption | rfl | decide) ?_))))) | ((show wpAny _ _ (binaryOp _ (Value.ref _) _) _ _ _); k_here; (first | ((show wpAny _ _ (binaryOp Operator.Add (Value.ref _) (Value.ref _)) _ _ _); k_dflt (refine' m_add (by k_asm) (by k_asm) (by k_mem) (by k_mem) (by tb_rel) (by tb_rel) ?_)) | ((show wpAny _ _ (binaryOp Operator.Mult (Value.ref _) (Value.int _ _)) _ _ _); k_dflt (refine' m_mul (by k_asm) (by k_asm) (by k_mem) (by rfl) (by omega) ?_))); intro Dw hw Fw Nw lw; (try k_lt lw); (try k_sweep))) | ((with_reducible show UnrEnd _ _ _ _ _ _ _); (rename Fr _ _ _ _ => uF); (rename News _ _ _ _ => uN); k_dflt (apply unr_off uF uN (by k_mem)); (· repeat (first | exact off_nil | (apply off_all; tbn_find) | apply off_eq | (apply off_ne; · k_ne))); refine ⟨by k_mem, ?_⟩) | walk1 | (dsimp only; walk1) | (leave1; (try dsimp only))))
    rename Fr _ _ _ _ => kF
    rename News _ _ _ _ => kN
    have fin := fun tk => good_close (tk := tk) (good_of (sub_off2 hT (fun p hp => by repeat (first | exact hp | refine List.Mem.tail _ ?_))) hn) kF rfl rfl kN (by k_mem) (by k_mem) (by k_mem) (by k_mem) rfl rfl
    exact fin _
  case tBnd =>
    clear NN FF
    intro x dx wl ol hs tk0 sep
    obtain ⟨w1, w2, w3, w4, w5⟩ := sep
    intro S O T t e wd t1 hw1 hw2 ht hS hO hB h tk m n k F' m1 m2 N' hT
    obtain ⟨u, F'⟩ := fr_two F' m1 m2
    clear m1 m2
    show WhlRest _ _ _ _ _ _ _ _ _ (0 + 1) _
    k_dflt (refine' whl_turn (k := 0) ?hE ?_; (case hE => first | passes_own | with_unfolding_all passes_own))
    (try k_sweep)
    repeat' ((fail_if_success (with_reducible show wpAny _ _ (execs (Stmt.Assign _ _ _ :: _) _) _ _ _)); (first | (k_unfold; (try dsimp only)) | (k_end; wrow_close) | (with_reducible first | ((show wpAny _ _ (call (Value.builtin _) _) _ _ _); k_here; (first | ((show wpAny _ _ (call (Value.builtin "len") _) _ _ _); (first | k_dflt (refine' m_lenL (by k_asm) (by k_mem) (by first | (show _ = (0 : Int); rfl) | (show _ = (1 : Int); rfl) | (show _ = (2 : Int); rfl) | (show _ = (3 : Int); rfl) | (show _ = (4 : Int); rfl)) (by decide) ?_) | k_dflt (refine' m_len (by k_asm) (by k_mem) (by tb_rel) ?_))) | ((first | ((show wpAny _ _ (call (Value.builtin "list.append") _) _ _ _); k_dflt (refine' m_append (by k_asm) (by k_asm) (by first | assumption | k_upd) (by tb_rel) ?_)) | ((show wpAny _ _ (call (Value.builtin "list.extend") _) _ _ _); (first | k_dflt (refine' m_extend_nil (by k_asm) (by k_asm) (by k_mem) (by k_upd) (by tb_rel) ?_) | k_dflt (refine' m_extend (by k_asm) (by k_asm) (by k_mem) (by kl_some) (by k_upd) (by tb_rel) (by tb_rel) ?_))) | ((show wpAny _ _ (call (Value.builtin "list.pop") _) _ _ _); k_dflt (refine' m_pop (by k_asm) (by k_asm) (by k_upd) (by tb_rel) ?_))); intro hw Fw Nw; (try simp only [List.cons_append, List.nil_append] at Nw); (try k_sweep)))) | ((show wpAny _ _ (setItem (Value.ref _) (Value.int _ _) _) _ _ _); k_here; k_dflt (refine' m_set (by k_asm) (by k_asm) (by k_upd) (by tb_rel) (by tb_rel) (by tb_rel) ?_); intro hw Fw Nw; (try simp only [List.cons_append, List.nil_append] at Nw); (try k_sweep)) | ((show WhlIf _ _ _); (first | (refine WhlIf.yes (decide_eq_true (by tb_rel)) ?_) | (refine WhlIf.no (decide_eq_false (by tb_rel)) ?_))) | ((first | show wpAny _ _ (exec (Stmt.For (PySem.Expr.Name _ _) (PySem.Expr.Name _ _) _ _ _) _) _ _ _ | show wpAny _ _ (exec (Stmt.For (PySem.Expr.Name _ _) (PySem.Expr.Subscript _ _ _) _ _ _) _) _ _ _); k_here; (rename Fr _ _ _ _ => Fw'); (with_unfolding_all refine' For_invVF Fw' (by exact rfl) (by exact rfl) ?_); k_whole) | ((show wpAny _ _ (pyIter (Value.ref _)) _ _ _); k_here; (rename Fr _ _ _ _ => Fw'); (rename News _ _ _ _ => Nw'); (first | (with_unfolding_all refine iter_listUnr (vs := [_]) (by rfl) Fw' Nw' (by k_mem) (by rfl) (by rfl) ?_) | (with_unfolding_all refine iter_listUnr (vs := [_, _]) (by rfl) Fw' Nw' (by k_mem) (by rfl) (by rfl) ?_)); clear Fw'; intro iw lw; (try k_lt lw)) | ((show wpAny _ _ (subscriptTail _ _ (Value.ref _) (Value.int _ _)) _ _ _); k_here; (first | k_dflt (refine' m_getT (by k_asm) (by k_mem) (by decide) (by first | decide | tb_rel) (by rfl) ?_ (by with_unfolding_all rfl)) | k_dflt (refine' m_get (by k_asm) (by k_mem) (by first | decide | tb_rel) (by first | decide | tb_rel) (by first | assumption | rfl) ?_ (by with_unfolding_all rfl) (by intro _; with_unfolding_all rfl)))) | ((show wpAny _ _ (callWith _ (Prod.fst (Value.builtin _, _)) (Prod.snd (_, _ :: _)) (backTo _ (starEach (_ :: _) _)) []) _ _ _); refine callWith_method1 ?_ (by with_unfolding_all rfl) (by with_unfolding_all rfl)) | ((show wpAny _ _ (compareOp _ (Value.str _ _) _) _ _ _); k_here; (first | ((show wpAny _ _ (compareOp CmpOp.Eq (Value.str _ _) (Value.str _ _)) _ _ _); refine m_eqS (by assumption) ?_) | ((show wpAny _ _ (compareOp CmpOp.In (Value.str _ _) (Value.ref _)) _ _ _); (first | k_dflt (refine' m_inT (by k_asm) (by k_mem) (by assumption) ?_) | k_dflt (refine' m_inTop (by k_asm) (by k_asm) (by k_is) (by kde_strs) (by first | assumption | rfl | decide) ?_))))) | ((show wpAny _ _ (binaryOp _ (Value.ref _) _) _ _ _); k_here; (first | ((show wpAny _ _ (binaryOp Operator.Add (Value.ref _) (Value.ref _)) _ _ _); k_dflt (refine' m_add (by k_asm) (by k_asm) (by k_mem) (by k_mem) (by tb_rel) (by tb_rel) ?_)) | ((show wpAny _ _ (binaryOp Operator.Mult (Value.ref _) (Value.int _ _)) _ _ _); k_dflt (refine' m_mul (by k_asm) (by k_asm) (by k_mem) (by rfl) (by omega) ?_))); intro Dw hw Fw Nw lw; (try k_lt lw); (try k_sweep))) | ((with_reducible show UnrEnd _ _ _ _ _ _ _); (rename Fr _ _ _ _ => uF); (rename News _ _ _ _ => uN); k_dflt (apply unr_off uF uN (by k_mem)); (· repeat (first | exact off_nil | (apply off_all; tbn_find) | apply off_eq | (apply off_ne; · k_ne))); refine ⟨by k_mem, ?_⟩) | walk1 | (dsimp only; walk1) | (leave1; (try dsimp only))))
    rename News _ _ _ _ => pN
    rename Fr _ _ _ _ => pF
    refine use_pop pop hS ht hT w1 w2 w3 pF pN ?_
    clear pF pN
    intro n h tk u F' N'
    (try dsimp only)
    repeat' ((fail_if_success (with_reducible show wpAny _ _ (call (Value.ref 91) _) _ _ _)); (first | (k_unfold; (try dsimp only)) | (k_end; wrow_close) | (with_reducible first | ((show wpAny _ _ (call (Value.builtin _) _) _ _ _); k_here; (first | ((show wpAny _ _ (call (Value.builtin "len") _) _ _ _); (first | k_dflt (refine' m_lenL (by k_asm) (by k_mem) (by first | (show _ = (0 : Int); rfl) | (show _ = (1 : Int); rfl) | (show _ = (2 : Int); rfl) | (show _ = (3 : Int); rfl) | (show _ = (4 : Int); rfl)) (by decide) ?_) | k_dflt (refine' m_len (by k_asm) (by k_mem) (by tb_rel) ?_))) | ((first | ((show wpAny _ _ (call (Value.builtin "list.append") _) _ _ _); k_dflt (refine' m_append (by k_asm) (by k_asm) (by first | assumption | k_upd) (by tb_rel) ?_)) | ((show wpAny _ _ (call (Value.builtin "list.extend") _) _ _ _); (first | k_dflt (refine' m_extend_nil (by k_asm) (by k_asm) (by k_mem) (by k_upd) (by tb_rel) ?_) | k_dflt (refine' m_extend (by k_asm) (by k_asm) (by k_mem) (by kl_some) (by k_upd) (by tb_rel) (by tb_rel) ?_))) | ((show wpAny _ _ (call (Value.builtin "list.pop") _) _ _ _); k_dflt (refine' m_pop (by k_asm) (by k_asm) (by k_upd) (by tb_rel) ?_))); intro hw Fw Nw; (try simp only [List.cons_append, List.nil_append] at Nw); (try k_sweep)))) | ((show wpAny _ _ (setItem (Value.ref _) (Value.int _ _) _) _ _ _); k_here; k_dflt (refine' m_set (by k_asm) (by k_asm) (by k_upd) (by tb_rel) (by tb_rel) (by tb_rel) ?_); intro hw Fw Nw; (try simp only [List.cons_append, List.nil_append] at Nw); (try k_sweep)) | ((show WhlIf _ _ _); (first | (refine WhlIf.yes (decide_eq_true (by tb_rel)) ?_) | (refine WhlIf.no (decide_eq_false (by tb_rel)) ?_))) | ((first | show wpAny _ _ (exec (Stmt.For (PySem.Expr.Name _ _) (PySem.Expr.Name _ _) _ _ _) _) _ _ _ | show wpAny _ _ (exec (Stmt.For (PySem.Expr.Name _ _) (PySem.Expr.Subscript _ _ _) _ _ _) _) _ _ _); k_here; (rename Fr _ _ _ _ => Fw'); (with_unfolding_all refine' For_invVF Fw' (by exact rfl) (by exact rfl) ?_); k_whole) | ((show wpAny _ _ (pyIter (Value.ref _)) _ _ _); k_here; (rename Fr _ _ _ _ => Fw'); (rename News _ _ _ _ => Nw'); (first | (with_unfolding_all refine iter_listUnr (vs := [_]) (by rfl) Fw' Nw' (by k_mem) (by rfl) (by rfl) ?_) | (with_unfolding_all refine iter_listUnr (vs := [_, _]) (by rfl) Fw' Nw' (by k_mem) (by rfl) (by rfl) ?_)); clear Fw'; intro iw lw; (try k_lt lw)) | ((show wpAny _ _ (subscriptTail _ _ (Value.ref _) (Value.int _ _)) _ _ _); k_here; (first | k_dflt (refine' m_getT (by k_asm) (by k_mem) (by decide) (by first | decide | tb_rel) (by rfl) ?_ (by with_unfolding_all rfl)) | k_dflt (refine' m_get (by k_asm) (by k_mem) (by first | decide | tb_rel) (by first | decide | tb_rel) (by first | assumption | rfl) ?_ (by with_unfolding_all rfl) (by intro _; with_unfolding_all rfl)))) | ((show wpAny _ _ (callWith _ (Prod.fst (Value.builtin _, _)) (Prod.snd (_, _ :: _)) (backTo _ (starEach (_ :: _) _)) []) _ _ _); refine callWith_method1 ?_ (by with_unfolding_all rfl) (by with_unfolding_all rfl)) | ((show wpAny _ _ (compareOp _ (Value.str _ _) _) _ _ _); k_here; (first | ((show wpAny _ _ (compareOp CmpOp.Eq (Value.str _ _) (Value.str _ _)) _ _ _); refine m_eqS (by assumption) ?_) | ((show wpAny _ _ (compareOp CmpOp.In (Value.str _ _) (Value.ref _)) _ _ _); (first | k_dflt (refine' m_inT (by k_asm) (by k_mem) (by assumption) ?_) | k_dflt (refine' m_inTop (by k_asm) (by k_asm) (by k_is) (by kde_strs) (by first | assumption | rfl | decide) ?_))))) | ((show wpAny _ _ (binaryOp _ (Value.ref _) _) _ _ _); k_here; (first | ((show wpAny _ _ (binaryOp Operator.Add (Value.ref _) (Value.ref _)) _ _ _); k_dflt (refine' m_add (by k_asm) (by k_asm) (by k_mem) (by k_mem) (by tb_rel) (by tb_rel) ?_)) | ((show wpAny _ _ (binaryOp Operator.Mult (Value.ref _) (Value.int _ _)) _ _ _); k_dflt (refine' m_mul (by k_asm) (by k_asm) (by k_mem) (by rfl) (by omega) ?_))); intro Dw hw Fw Nw lw; (try k_lt lw); (try k_sweep))) | ((with_reducible show UnrEnd _ _ _ _ _ _ _); (rename Fr _ _ _ _ => uF); (rename News _ _ _ _ => uN); k_dflt (apply unr_off uF uN (by k_mem)); (· repeat (first | exact off_nil | (apply off_all; tbn_find) | apply off_eq | (apply off_ne; · k_ne))); refine ⟨by k_mem, ?_⟩) | walk1 | (dsimp only; walk1) | (leave1; (try dsimp only))))
    rename News _ _ _ _ => eN
    rename Fr _ _ _ _ => eF
    have bN := news_perm eN
    refine hB hT n k _ _ _ _ _ _ _ _ _ _ _ _ _ _ _ _ _ _ (by assumption) eF (by k_asm) bN (by assumption) (by rfl) ?_
    clear eF eN bN hB
    rintro _ T2 h' tk' F' N' ⟨rfl, O', k', q2, q3, q4, q5, hG⟩
    (try dsimp only)
    repeat' ((fail_if_success (with_reducible show WhlRest _ _ _ _ _ _ _ _ _ 0 _)); (first | (k_unfold; (try dsimp only)) | (k_end; wrow_close) | (with_reducible first | ((show wpAny _ _ (call (Value.builtin _) _) _ _ _); k_here; (first | ((show wpAny _ _ (call (Value.builtin "len") _) _ _ _); (first | k_dflt (refine' m_lenL (by k_asm) (by k_mem) (by first | (show _ = (0 : Int); rfl) | (show _ = (1 : Int); rfl) | (show _ = (2 : Int); rfl) | (show _ = (3 : Int); rfl) | (show _ = (4 : Int); rfl)) (by decide) ?_) | k_dflt (refine' m_len (by k_asm) (by k_mem) (by tb_rel) ?_))) | ((first | ((show wpAny _ _ (call (Value.builtin "list.append") _) _ _ _); k_dflt (refine' m_append (by k_asm) (by k_asm) (by first | assumption | k_upd) (by tb_rel) ?_)) | ((show wpAny _ _ (call (Value.builtin "list.extend") _) _ _ _); (first | k_dflt (refine' m_extend_nil (by k_asm) (by k_asm) (by k_mem) (by k_upd) (by tb_rel) ?_) | k_dflt (refine' m_extend (by k_asm) (by k_asm) (by k_mem) (by kl_some) (by k_upd) (by tb_rel) (by tb_rel) ?_))) | ((show wpAny _ _ (call (Value.builtin "list.pop") _) _ _ _); k_dflt (refine' m_pop (by k_asm) (by k_asm) (by k_upd) (by tb_rel) ?_))); intro hw Fw Nw; (try simp only [List.cons_append, List.nil_append] at Nw); (try k_sweep)))) | ((show wpAny _ _ (setItem (Value.ref _) (Value.int _ _) _) _ _ _); k_here; k_dflt (refine' m_set (by k_asm) (by k_asm) (by k_upd) (by tb_rel) (by tb_rel) (by tb_rel) ?_); intro hw Fw Nw; (try simp only [List.cons_append, List.nil_append] at Nw); (try k_sweep)) | ((show WhlIf _ _ _); (first | (refine WhlIf.yes (decide_eq_true (by tb_rel)) ?_) | (refine WhlIf.no (decide_eq_false (by tb_rel)) ?_))) | ((first | show wpAny _ _ (exec (Stmt.For (PySem.Expr.Name _ _) (PySem.Expr.Name _ _) _ _ _) _) _ _ _ | show wpAny _ _ (exec (Stmt.For (PySem.Expr.Name _ _) (PySem.Expr.Subscript _ _ _) _ _ _) _) _ _ _); k_here; (rename Fr _ _ _ _ => Fw'); (with_unfolding_all refine' For_invVF Fw' (by exact rfl) (by exact rfl) ?_); k_whole) | ((show wpAny _ _ (pyIter (Value.ref _)) _ _ _); k_here; (rename Fr _ _ _ _ => Fw'); (rename News _ _ _ _ => Nw'); (first | (with_unfolding_all refine iter_listUnr (vs := [_]) (by rfl) Fw' Nw' (by k_mem) (by rfl) (by rfl) ?_) | (with_unfolding_all refine iter_listUnr (vs := [_, _]) (by rfl) Fw' Nw' (by k_mem) (by rfl) (by rfl) ?_)); clear Fw'; intro iw lw; (try k_lt lw)) | ((show wpAny _ _ (subscriptTail _ _ (Value.ref _) (Value.int _ _)) _ _ _); k_here; (first | k_dflt (refine' m_getT (by k_asm) (by k_mem) (by decide) (by first | decide | tb_rel) (by rfl) ?_ (by with_unfolding_all rfl)) | k_dflt (refine' m_get (by k_asm) (by k_mem) (by first | decide | tb_rel) (by first | decide | tb_rel) (by first | assumption | rfl) ?_ (by with_unfolding_all rfl) (by intro _; with_unfolding_all rfl)))) | ((show wpAny _ _ (callWith _ (Prod.fst (Value.builtin _, _)) (Prod.snd (_, _ :: _)) (backTo _ (starEach (_ :: _) _)) []) _ _ _); refine callWith_method1 ?_ (by with_unfolding_all rfl) (by with_unfolding_all rfl)) | ((show wpAny _ _ (compareOp _ (Value.str _ _) _) _ _ _); k_here; (first | ((show wpAny _ _ (compareOp CmpOp.Eq (Value.str _ _) (Value.str _ _)) _ _ _); refine m_eqS (by assumption) ?_) | ((show wpAny _ _ (compareOp CmpOp.In (Value.str _ _) (Value.ref _)) _ _ _); (first | k_dflt (refine' m_inT (by k_asm) (by k_mem) (by assumption) ?_) | k_dflt (refine' m_inTop (by k_asm) (by k_asm) (by k_is) (by kde_strs) (by first | assumption | rfl | decide) ?_))))) | ((show wpAny _ _ (binaryOp _ (Value.ref _) _) _ _ _); k_here; (first | ((show wpAny _ _ (binaryOp Operator.Add (Value.ref _) (Value.ref _)) _ _ _); k_dflt (refine' m_add (by k_asm) (by k_asm) (by k_mem) (by k_mem) (by tb_rel) (by tb_rel) ?_)) | ((show wpAny _ _ (binaryOp Operator.Mult (Value.ref _) (Value.int _ _)) _ _ _); k_dflt (refine' m_mul (by k_asm) (by k_asm) (by k_mem) (by rfl) (by omega) ?_))); intro Dw hw Fw Nw lw; (try k_lt lw); (try k_sweep))) | ((with_reducible show UnrEnd _ _ _ _ _ _ _); (rename Fr _ _ _ _ => uF); (rename News _ _ _ _ => uN); k_dflt (apply unr_off uF uN (by k_mem)); (· repeat (first | exact off_nil | (apply off_all; tbn_find) | apply off_eq | (apply off_ne; · k_ne))); refine ⟨by k_mem, ?_⟩) | walk1 | (dsimp only; walk1) | (leave1; (try dsimp only))))
    rename Fr _ _ _ _ => kF
    rename News _ _ _ _ => kN
    exact good_close hG kF rfl rfl kN q2 q3 q4 q5 rfl rfl
  case done =>
    intro sep O T' hsub hO hl
    clear NN FF
    obtain ⟨w1, w2, w3, w4, w5⟩ := sep
    intro h tk m n k F' m1 m2 N' hT
    obtain ⟨u, F'⟩ := fr_two F' m1 m2
    clear m1 m2
    show WhlRest _ _ _ _ _ _ _ _ _ (0 + 1) _
    k_dflt (refine' whl_turn (k := 0) ?hE ?_; (case hE => first | passes_own | with_unfolding_all passes_own))
    (try k_sweep)
    repeat' ((fail_if_success (with_reducible show wpAny _ _ (pyIter _) _ _ _)); (first | (k_unfold; (try dsimp only)) | (k_end; wrow_close) | (with_reducible first | ((show wpAny _ _ (call (Value.builtin _) _) _ _ _); k_here; (first | ((show wpAny _ _ (call (Value.builtin "len") _) _ _ _); (first | k_dflt (refine' m_lenL (by k_asm) (by k_mem) (by first | (show _ = (0 : Int); rfl) | (show _ = (1 : Int); rfl) | (show _ = (2 : Int); rfl) | (show _ = (3 : Int); rfl) | (show _ = (4 : Int); rfl)) (by decide) ?_) | k_dflt (refine' m_len (by k_asm) (by k_mem) (by tb_rel) ?_))) | ((first | ((show wpAny _ _ (call (Value.builtin "list.append") _) _ _ _); k_dflt (refine' m_append (by k_asm) (by k_asm) (by first | assumption | k_upd) (by tb_rel) ?_)) | ((show wpAny _ _ (call (Value.builtin "list.extend") _) _ _ _); (first | k_dflt (refine' m_extend_nil (by k_asm) (by k_asm) (by k_mem) (by k_upd) (by tb_rel) ?_) | k_dflt (refine' m_extend (by k_asm) (by k_asm) (by k_mem) (by kl_some) (by k_upd) (by tb_rel) (by tb_rel) ?_))) | ((show wpAny _ _ (call (Value.builtin "list.pop") _) _ _ _); k_dflt (refine' m_pop (by k_asm) (by k_asm) (by k_upd) (by tb_rel) ?_))); intro hw Fw Nw; (try simp only [List.cons_append, List.nil_append] at Nw); (try k_sweep)))) | ((show wpAny _ _ (setItem (Value.ref _) (Value.int _ _) _) _ _ _); k_here; k_dflt (refine' m_set (by k_asm) (by k_asm) (by k_upd) (by tb_rel) (by tb_rel) (by tb_rel) ?_); intro hw Fw Nw; (try simp only [List.cons_append, List.nil_append] at Nw); (try k_sweep)) | ((show WhlIf _ _ _); (first | (refine WhlIf.yes (decide_eq_true (by tb_rel)) ?_) | (refine WhlIf.no (decide_eq_false (by tb_rel)) ?_))) | ((first | show wpAny _ _ (exec (Stmt.For (PySem.Expr.Name _ _) (PySem.Expr.Name _ _) _ _ _) _) _ _ _ | show wpAny _ _ (exec (Stmt.For (PySem.Expr.Name _ _) (PySem.Expr.Subscript _ _ _) _ _ _) _) _ _ _); k_here; (rename Fr _ _ _ _ => Fw'); (with_unfolding_all refine' For_invVF Fw' (by exact rfl) (by exact rfl) ?_); k_whole) | ((show wpAny _ _ (pyIter (Value.ref _)) _ _ _); k_here; (rename Fr _ _ _ _ => Fw'); (rename News _ _ _ _ => Nw'); (first | (with_unfolding_all refine iter_listUnr (vs := [_]) (by rfl) Fw' Nw' (by k_mem) (by rfl) (by rfl) ?_) | (with_unfolding_all refine iter_listUnr (vs := [_, _]) (by rfl) Fw' Nw' (by k_mem) (by rfl) (by rfl) ?_)); clear Fw'; intro iw lw; (try k_lt lw)) | ((show wpAny _ _ (subscriptTail _ _ (Value.ref _) (Value.int _ _)) _ _ _); k_here; (first | k_dflt (refine' m_getT (by k_asm) (by k_mem) (by decide) (by first | decide | tb_rel) (by rfl) ?_ (by with_unfolding_all rfl)) | k_dflt (refine' m_get (by k_asm) (by k_mem) (by first | decide | tb_rel) (by first | decide | tb_rel) (by first | assumption | rfl) ?_ (by with_unfolding_all rfl) (by intro _; with_unfolding_all rfl)))) | ((show wpAny _ _ (callWith _ (Prod.fst (Value.builtin _, _)) (Prod.snd (_, _ :: _)) (backTo _ (starEach (_ :: _) _)) []) _ _ _); refine callWith_method1 ?_ (by with_unfolding_all rfl) (by with_unfolding_all rfl)) | ((show wpAny _ _ (compareOp _ (Value.str _ _) _) _ _ _); k_here; (first | ((show wpAny _ _ (compareOp CmpOp.Eq (Value.str _ _) (Value.str _ _)) _ _ _); refine m_eqS (by assumption) ?_) | ((show wpAny _ _ (compareOp CmpOp.In (Value.str _ _) (Value.ref _)) _ _ _); (first | k_dflt (refine' m_inT (by k_asm) (by k_mem) (by assumption) ?_) | k_dflt (refine' m_inTop (by k_asm) (by k_asm) (by k_is) (by kde_strs) (by first | assumption | rfl | decide) ?_))))) | ((show wpAny _ _ (binaryOp _ (Value.ref _) _) _ _ _); k_here; (first | ((show wpAny _ _ (binaryOp Operator.Add (Value.ref _) (Value.ref _)) _ _ _); k_dflt (refine' m_add (by k_asm) (by k_asm) (by k_mem) (by k_mem) (by tb_rel) (by tb_rel) ?_)) | ((show wpAny _ _ (binaryOp Operator.Mult (Value.ref _) (Value.int _ _)) _ _ _); k_dflt (refine' m_mul (by k_asm) (by k_asm) (by k_mem) (by rfl) (by omega) ?_))); intro Dw hw Fw Nw lw; (try k_lt lw); (try k_sweep))) | ((with_reducible show UnrEnd _ _ _ _ _ _ _); (rename Fr _ _ _ _ => uF); (rename News _ _ _ _ => uN); k_dflt (apply unr_off uF uN (by k_mem)); (· repeat (first | exact off_nil | (apply off_all; tbn_find) | apply off_eq | (apply off_ne; · k_ne))); refine ⟨by k_mem, ?_⟩) | walk1 | (dsimp only; walk1) | (leave1; (try dsimp only))))
    rename Fr _ _ _ _ => lF
    rename News _ _ _ _ => lN
    with_unfolding_all refine' str_iter2 (spec := code nd 0) (T0 := T') (by rfl) lF ?m1 ?m2 lN ?hol ?hfl ?hdd ?hT ?d1 ?d2 ?hoff hO hst ?hlen ?turn ?done
    case m1 => exact rfl
    case m2 => exact rfl
    case hol => k_mem
    case hfl => k_mem
    case hdd => k_mem
    case hT =>
      intro p hp
      repeat (first | exact hp | refine List.Mem.tail _ ?_)
    case d1 => k_ne
    case d2 => k_ne
    case hlen =>
      have := hO.length
      omega
    case hoff =>
      intro p hp b hb
      simp only [List.mem_cons, List.not_mem_nil, or_false] at hb
      rcases hb with rfl | rfl
      · exact tbn_neAll (by tbn_find) p hp
      · exact hT p hp _ (.tail _ (.head _))
    case turn =>
      clear lF lN hT
      intro i v o S kk' Ta Tb h2 tk2 u2 hgo hVl hTab hoff2 hb hov F2 N2
      rcases ord_kind hov with ⟨a, ks, t1, t2, g, rfl, hm, hin, hks⟩ | ⟨a, ks, t1, rest, rfl, hm, hin⟩
      · obtain ⟨b, ks2, tb, rest, hV, hbm, hks2, hg⟩ := hgo g (by rcases hks with ⟨_, h⟩ | ⟨_, h⟩; exact .inl h; exact .inr h)
        clear hgo hov
        replace N2 := news_lits2 [(a, tupO [.str ks t1, .int g t2]), (b, tupO (.str ks2 tb :: rest))] N2 (List.forall_mem_cons.mpr ⟨hTab _ hm, List.forall_mem_cons.mpr ⟨hbm, List.forall_mem_nil _⟩⟩)
        simp only [List.cons_append, List.nil_append] at N2
        have a1 := Ne.symm (hoff2 _ (hTab _ hm) _ (.head _))
        have a2 := Ne.symm (hoff2 _ (hTab _ hm) _ (.tail _ (.head _)))
        have b1 := Ne.symm (hoff2 _ hbm _ (.head _))
        have b2 := Ne.symm (hoff2 _ hbm _ (.tail _ (.head _)))
        dsimp only at a1 a2 b1 b2
        have hg2 := (List.getElem?_eq_some_iff.mp hV).1
        simp only [List.length_append, List.length_cons, List.length_nil] at hg2
        repeat' ((fail_if_success (with_reducible show wpAny _ _ (exec (Stmt.While _ _ _ _) _) _ _ _)); (first | (k_unfold; (try dsimp only)) | (k_end; wrow_close) | (with_reducible first | ((show wpAny _ _ (call (Value.builtin _) _) _ _ _); k_here; (first | ((show wpAny _ _ (call (Value.builtin "len") _) _ _ _); (first | k_dflt (refine' m_lenL (by k_asm) (by k_mem) (by first | (show _ = (0 : Int); rfl) | (show _ = (1 : Int); rfl) | (show _ = (2 : Int); rfl) | (show _ = (3 : Int); rfl) | (show _ = (4 : Int); rfl)) (by decide) ?_) | k_dflt (refine' m_len (by k_asm) (by k_mem) (by tb_rel) ?_))) | ((first | ((show wpAny _ _ (call (Value.builtin "list.append") _) _ _ _); k_dflt (refine' m_append (by k_asm) (by k_asm) (by first | assumption | k_upd) (by tb_rel) ?_)) | ((show wpAny _ _ (call (Value.builtin "list.extend") _) _ _ _); (first | k_dflt (refine' m_extend_nil (by k_asm) (by k_asm) (by k_mem) (by k_upd) (by tb_rel) ?_) | k_dflt (refine' m_extend (by k_asm) (by k_asm) (by k_mem) (by kl_some) (by k_upd) (by tb_rel) (by tb_rel) ?_))) | ((show wpAny _ _ (call (Value.builtin "list.pop") _) _ _ _); k_dflt (refine' m_pop (by k_asm) (by k_asm) (by k_upd) (by tb_rel) ?_))); intro hw Fw Nw; (try simp only [List.cons_append, List.nil_append] at Nw); (try k_sweep)))) | ((show wpAny _ _ (setItem (Value.ref _) (Value.int _ _) _) _ _ _); k_here; k_dflt (refine' m_set (by k_asm) (by k_asm) (by k_upd) (by tb_rel) (by tb_rel) (by tb_rel) ?_); intro hw Fw Nw; (try simp only [List.cons_append, List.nil_append] at Nw); (try k_sweep)) | ((show WhlIf _ _ _); (first | (refine WhlIf.yes (decide_eq_true (by tb_rel)) ?_) | (refine WhlIf.no (decide_eq_false (by tb_rel)) ?_))) | ((first | show wpAny _ _ (exec (Stmt.For (PySem.Expr.Name _ _) (PySem.Expr.Name _ _) _ _ _) _) _ _ _ | show wpAny _ _ (exec (Stmt.For (PySem.Expr.Name _ _) (PySem.Expr.Subscript _ _ _) _ _ _) _) _ _ _); k_here; (rename Fr _ _ _ _ => Fw'); (with_unfolding_all refine' For_invVF Fw' (by exact rfl) (by exact rfl) ?_); k_whole) | ((show wpAny _ _ (pyIter (Value.ref _)) _ _ _); k_here; (rename Fr _ _ _ _ => Fw'); (rename News _ _ _ _ => Nw'); (first | (with_unfolding_all refine iter_listUnr (vs := [_]) (by rfl) Fw' Nw' (by k_mem) (by rfl) (by rfl) ?_) | (with_unfolding_all refine iter_listUnr (vs := [_, _]) (by rfl) Fw' Nw' (by k_mem) (by rfl) (by rfl) ?_)); clear Fw'; intro iw lw; (try k_lt lw)) | ((show wpAny _ _ (subscriptTail _ _ (Value.ref _) (Value.int _ _)) _ _ _); k_here; (first | k_dflt (refine' m_getT (by k_asm) (by k_mem) (by decide) (by first | decide | tb_rel) (by rfl) ?_ (by with_unfolding_all rfl)) | k_dflt (refine' m_get (by k_asm) (by k_mem) (by first | decide | tb_rel) (by first | decide | tb_rel) (by first | assumption | rfl) ?_ (by with_unfolding_all rfl) (by intro _; with_unfolding_all rfl)))) | ((show wpAny _ _ (callWith _ (Prod.fst (Value.builtin _, _)) (Prod.snd (_, _ :: _)) (backTo _ (starEach (_ :: _) _)) []) _ _ _); refine callWith_method1 ?_ (by with_unfolding_all rfl) (by with_unfolding_all rfl)) | ((show wpAny _ _ (compareOp _ (Value.str _ _) _) _ _ _); k_here; (first | ((show wpAny _ _ (compareOp CmpOp.Eq (Value.str _ _) (Value.str _ _)) _ _ _); refine m_eqS (by assumption) ?_) | ((show wpAny _ _ (compareOp CmpOp.In (Value.str _ _) (Value.ref _)) _ _ _); (first | k_dflt (refine' m_inT (by k_asm) (by k_mem) (by assumption) ?_) | k_dflt (refine' m_inTop (by k_asm) (by k_asm) (by k_is) (by kde_strs) (by first | assumption | rfl | decide) ?_))))) | ((show wpAny _ _ (binaryOp _ (Value.ref _) _) _ _ _); k_here; (first | ((show wpAny _ _ (binaryOp Operator.Add (Value.ref _) (Value.ref _)) _ _ _); k_dflt (refine' m_add (by k_asm) (by k_asm) (by k_mem) (by k_mem) (by tb_rel) (by tb_rel) ?_)) | ((show wpAny _ _ (binaryOp Operator.Mult (Value.ref _) (Value.int _ _)) _ _ _); k_dflt (refine' m_mul (by k_asm) (by k_asm) (by k_mem) (by rfl) (by omega) ?_))); intro Dw hw Fw Nw lw; (try k_lt lw); (try k_sweep))) | ((with_reducible show UnrEnd _ _ _ _ _ _ _); (rename Fr _ _ _ _ => uF); (rename News _ _ _ _ => uN); k_dflt (apply unr_off uF uN (by k_mem)); (· repeat (first | exact off_nil | (apply off_all; tbn_find) | apply off_eq | (apply off_ne; · k_ne))); refine ⟨by k_mem, ?_⟩) | walk1 | (dsimp only; walk1) | (leave1; (try dsimp only))))
        (k_dflt (refine whl_start 0 ?_))
        k_dflt (refine' whl_turn (k := 0) ?hE ?_; (case hE => first | passes_own | with_unfolding_all passes_own))
        iterate 10 (first | (k_unfold; (try dsimp only)) | (k_end; wrow_close) | (with_reducible first | ((show wpAny _ _ (call (Value.builtin _) _) _ _ _); k_here; (first | ((show wpAny _ _ (call (Value.builtin "len") _) _ _ _); (first | k_dflt (refine' m_lenL (by k_asm) (by k_mem) (by first | (show _ = (0 : Int); rfl) | (show _ = (1 : Int); rfl) | (show _ = (2 : Int); rfl) | (show _ = (3 : Int); rfl) | (show _ = (4 : Int); rfl)) (by decide) ?_) | k_dflt (refine' m_len (by k_asm) (by k_mem) (by tb_rel) ?_))) | ((first | ((show wpAny _ _ (call (Value.builtin "list.append") _) _ _ _); k_dflt (refine' m_append (by k_asm) (by k_asm) (by first | assumption | k_upd) (by tb_rel) ?_)) | ((show wpAny _ _ (call (Value.builtin "list.extend") _) _ _ _); (first | k_dflt (refine' m_extend_nil (by k_asm) (by k_asm) (by k_mem) (by k_upd) (by tb_rel) ?_) | k_dflt (refine' m_extend (by k_asm) (by k_asm) (by k_mem) (by kl_some) (by k_upd) (by tb_rel) (by tb_rel) ?_))) | ((show wpAny _ _ (call (Value.builtin "list.pop") _) _ _ _); k_dflt (refine' m_pop (by k_asm) (by k_asm) (by k_upd) (by tb_rel) ?_))); intro hw Fw Nw; (try simp only [List.cons_append, List.nil_append] at Nw); (try k_sweep)))) | ((show wpAny _ _ (setItem (Value.ref _) (Value.int _ _) _) _ _ _); k_here; k_dflt (refine' m_set (by k_asm) (by k_asm) (by k_upd) (by tb_rel) (by tb_rel) (by tb_rel) ?_); intro hw Fw Nw; (try simp only [List.cons_append, List.nil_append] at Nw); (try k_sweep)) | ((show WhlIf _ _ _); (first | (refine WhlIf.yes (decide_eq_true (by tb_rel)) ?_) | (refine WhlIf.no (decide_eq_false (by tb_rel)) ?_))) | ((first | show wpAny _ _ (exec (Stmt.For (PySem.Expr.Name _ _) (PySem.Expr.Name _ _) _ _ _) _) _ _ _ | show wpAny _ _ (exec (Stmt.For (PySem.Expr.Name _ _) (PySem.Expr.Subscript _ _ _) _ _ _) _) _ _ _); k_here; (rename Fr _ _ _ _ => Fw'); (with_unfolding_all refine' For_invVF Fw' (by exact rfl) (by exact rfl) ?_); k_whole) | ((show wpAny _ _ (pyIter (Value.ref _)) _ _ _); k_here; (rename Fr _ _ _ _ => Fw'); (rename News _ _ _ _ => Nw'); (first | (with_unfolding_all refine iter_listUnr (vs := [_]) (by rfl) Fw' Nw' (by k_mem) (by rfl) (by rfl) ?_) | (with_unfolding_all refine iter_listUnr (vs := [_, _]) (by rfl) Fw' Nw' (by k_mem) (by rfl) (by rfl) ?_)); clear Fw'; intro iw lw; (try k_lt lw)) | ((show wpAny _ _ (subscriptTail _ _ (Value.ref _) (Value.int _ _)) _ _ _); k_here; (first | k_dflt (refine' m_getT (by k_asm) (by k_mem) (by decide) (by first | decide | tb_rel) (by rfl) ?_ (by with_unfolding_all rfl)) | k_dflt (refine' m_get (by k_asm) (by k_mem) (by first | decide | tb_rel) (by first | decide | tb_rel) (by first | assumption | rfl) ?_ (by with_unfolding_all rfl) (by intro _; with_unfolding_all rfl)))) | ((show wpAny _ _ (callWith _ (Prod.fst (Value.builtin _, _)) (Prod.snd (_, _ :: _)) (backTo _ (starEach (_ :: _) _)) []) _ _ _); refine callWith_method1 ?_ (by with_unfolding_all rfl) (by with_unfolding_all rfl)) | ((show wpAny _ _ (compareOp _ (Value.str _ _) _) _ _ _); k_here; (first | ((show wpAny _ _ (compareOp CmpOp.Eq (Value.str _ _) (Value.str _ _)) _ _ _); refine m_eqS (by assumption) ?_) | ((show wpAny _ _ (compareOp CmpOp.In (Value.str _ _) (Value.ref _)) _ _ _); (first | k_dflt (refine' m_inT (by k_asm) (by k_mem) (by assumption) ?_) | k_dflt (refine' m_inTop (by k_asm) (by k_asm) (by k_is) (by kde_strs) (by first | assumption | rfl | decide) ?_))))) | ((show wpAny _ _ (binaryOp _ (Value.ref _) _) _ _ _); k_here; (first | ((show wpAny _ _ (binaryOp Operator.Add (Value.ref _) (Value.ref _)) _ _ _); k_dflt (refine' m_add (by k_asm) (by k_asm) (by k_mem) (by k_mem) (by tb_rel) (by tb_rel) ?_)) | ((show wpAny _ _ (binaryOp Operator.Mult (Value.ref _) (Value.int _ _)) _ _ _); k_dflt (refine' m_mul (by k_asm) (by k_asm) (by k_mem) (by rfl) (by omega) ?_))); intro Dw hw Fw Nw lw; (try k_lt lw); (try k_sweep))) | ((with_reducible show UnrEnd _ _ _ _ _ _ _); (rename Fr _ _ _ _ => uF); (rename News _ _ _ _ => uN); k_dflt (apply unr_off uF uN (by k_mem)); (· repeat (first | exact off_nil | (apply off_all; tbn_find) | apply off_eq | (apply off_ne; · k_ne))); refine ⟨by k_mem, ?_⟩) | walk1 | (dsimp only; walk1) | (leave1; (try dsimp only)))
        have hkb : (ks2 == Str.ofString "jump") = false := by simpa using hks2
        simp only [hkb]
        repeat' ((fail_if_success (with_reducible show WhlRest _ _ _ _ _ _ _ _ _ 0 _)); (fail_if_success (with_reducible show StrPost _ _ _ _ _ _ _ _ _ _ _ _)); (first | (k_unfold; (try dsimp only)) | (k_end; wrow_close) | (with_reducible first | ((show wpAny _ _ (call (Value.builtin _) _) _ _ _); k_here; (first | ((show wpAny _ _ (call (Value.builtin "len") _) _ _ _); (first | k_dflt (refine' m_lenL (by k_asm) (by k_mem) (by first | (show _ = (0 : Int); rfl) | (show _ = (1 : Int); rfl) | (show _ = (2 : Int); rfl) | (show _ = (3 : Int); rfl) | (show _ = (4 : Int); rfl)) (by decide) ?_) | k_dflt (refine' m_len (by k_asm) (by k_mem) (by tb_rel) ?_))) | ((first | ((show wpAny _ _ (call (Value.builtin "list.append") _) _ _ _); k_dflt (refine' m_append (by k_asm) (by k_asm) (by first | assumption | k_upd) (by tb_rel) ?_)) | ((show wpAny _ _ (call (Value.builtin "list.extend") _) _ _ _); (first | k_dflt (refine' m_extend_nil (by k_asm) (by k_asm) (by k_mem) (by k_upd) (by tb_rel) ?_) | k_dflt (refine' m_extend (by k_asm) (by k_asm) (by k_mem) (by kl_some) (by k_upd) (by tb_rel) (by tb_rel) ?_))) | ((show wpAny _ _ (call (Value.builtin "list.pop") _) _ _ _); k_dflt (refine' m_pop (by k_asm) (by k_asm) (by k_upd) (by tb_rel) ?_))); intro hw Fw Nw; (try simp only [List.cons_append, List.nil_append] at Nw); (try k_sweep)))) | ((show wpAny _ _ (setItem (Value.ref _) (Value.int _ _) _) _ _ _); k_here; k_dflt (refine' m_set (by k_asm) (by k_asm) (by k_upd) (by tb_rel) (by tb_rel) (by tb_rel) ?_); intro hw Fw Nw; (try simp only [List.cons_append, List.nil_append] at Nw); (try k_sweep)) | ((show WhlIf _ _ _); (first | (refine WhlIf.yes (decide_eq_true (by tb_rel)) ?_) | (refine WhlIf.no (decide_eq_false (by tb_rel)) ?_))) | ((first | show wpAny _ _ (exec (Stmt.For (PySem.Expr.Name _ _) (PySem.Expr.Name _ _) _ _ _) _) _ _ _ | show wpAny _ _ (exec (Stmt.For (PySem.Expr.Name _ _) (PySem.Expr.Subscript _ _ _) _ _ _) _) _ _ _); k_here; (rename Fr _ _ _ _ => Fw'); (with_unfolding_all refine' For_invVF Fw' (by exact rfl) (by exact rfl) ?_); k_whole) | ((show wpAny _ _ (pyIter (Value.ref _)) _ _ _); k_here; (rename Fr _ _ _ _ => Fw'); (rename News _ _ _ _ => Nw'); (first | (with_unfolding_all refine iter_listUnr (vs := [_]) (by rfl) Fw' Nw' (by k_mem) (by rfl) (by rfl) ?_) | (with_unfolding_all refine iter_listUnr (vs := [_, _]) (by rfl) Fw' Nw' (by k_mem) (by rfl) (by rfl) ?_)); clear Fw'; intro iw lw; (try k_lt lw)) | ((show wpAny _ _ (subscriptTail _ _ (Value.ref _) (Value.int _ _)) _ _ _); k_here; (first | k_dflt (refine' m_getT (by k_asm) (by k_mem) (by decide) (by first | decide | tb_rel) (by rfl) ?_ (by with_unfolding_all rfl)) | k_dflt (refine' m_get (by k_asm) (by k_mem) (by first | decide | tb_rel) (by first | decide | tb_rel) (by first | assumption | rfl) ?_ (by with_unfolding_all rfl) (by intro _; with_unfolding_all rfl)))) | ((show wpAny _ _ (callWith _ (Prod.fst (Value.builtin _, _)) (Prod.snd (_, _ :: _)) (backTo _ (starEach (_ :: _) _)) []) _ _ _); refine callWith_method1 ?_ (by with_unfolding_all rfl) (by with_unfolding_all rfl)) | ((show wpAny _ _ (compareOp _ (Value.str _ _) _) _ _ _); k_here; (first | ((show wpAny _ _ (compareOp CmpOp.Eq (Value.str _ _) (Value.str _ _)) _ _ _); refine m_eqS (by assumption) ?_) | ((show wpAny _ _ (compareOp CmpOp.In (Value.str _ _) (Value.ref _)) _ _ _); (first | k_dflt (refine' m_inT (by k_asm) (by k_mem) (by assumption) ?_) | k_dflt (refine' m_inTop (by k_asm) (by k_asm) (by k_is) (by kde_strs) (by first | assumption | rfl | decide) ?_))))) | ((show wpAny _ _ (binaryOp _ (Value.ref _) _) _ _ _); k_here; (first | ((show wpAny _ _ (binaryOp Operator.Add (Value.ref _) (Value.ref _)) _ _ _); k_dflt (refine' m_add (by k_asm) (by k_asm) (by k_mem) (by k_mem) (by tb_rel) (by tb_rel) ?_)) | ((show wpAny _ _ (binaryOp Operator.Mult (Value.ref _) (Value.int _ _)) _ _ _); k_dflt (refine' m_mul (by k_asm) (by k_asm) (by k_mem) (by rfl) (by omega) ?_))); intro Dw hw Fw Nw lw; (try k_lt lw); (try k_sweep))) | ((with_reducible show UnrEnd _ _ _ _ _ _ _); (rename Fr _ _ _ _ => uF); (rename News _ _ _ _ => uN); k_dflt (apply unr_off uF uN (by k_mem)); (· repeat (first | exact off_nil | (apply off_all; tbn_find) | apply off_eq | (apply off_ne; · k_ne))); refine ⟨by k_mem, ?_⟩) | walk1 | (dsimp only; walk1) | (leave1; (try dsimp only))))
        rename Fr _ _ _ _ => kF
        rename News _ _ _ _ => kN
        rcases hks with ⟨rfl, rfl⟩ | ⟨rfl, rfl⟩
        · exact str_new kF rfl rfl kN (by k_mem) (by k_mem) (by k_mem) (fun p hp => by repeat (first | exact hp | refine List.Mem.tail _ ?_)) (.split (.head _)) (by k_ne) (by k_ne) (tbn_neAll (by tbn_find))
        · exact str_new kF rfl rfl kN (by k_mem) (by k_mem) (by k_mem) (fun p hp => by repeat (first | exact hp | refine List.Mem.tail _ ?_)) (.jump (.head _)) (by k_ne) (by k_ne) (tbn_neAll (by tbn_find))
      · clear hgo
        replace N2 := news_lits2 [(a, tupO (.str ks t1 :: rest))] N2 (List.forall_mem_cons.mpr ⟨hTab _ hm, List.forall_mem_nil _⟩)
        simp only [List.cons_append, List.nil_append] at N2
        have a1 := Ne.symm (hoff2 _ (hTab _ hm) _ (.head _))
        have a2 := Ne.symm (hoff2 _ (hTab _ hm) _ (.tail _ (.head _)))
        dsimp only at a1 a2
        repeat' ((fail_if_success (with_reducible show StrPost _ _ _ _ _ _ _ _ _ _ _ _)); (first | (k_unfold; (try dsimp only)) | (k_end; wrow_close) | (with_reducible first | ((show wpAny _ _ (call (Value.builtin _) _) _ _ _); k_here; (first | ((show wpAny _ _ (call (Value.builtin "len") _) _ _ _); (first | k_dflt (refine' m_lenL (by k_asm) (by k_mem) (by first | (show _ = (0 : Int); rfl) | (show _ = (1 : Int); rfl) | (show _ = (2 : Int); rfl) | (show _ = (3 : Int); rfl) | (show _ = (4 : Int); rfl)) (by decide) ?_) | k_dflt (refine' m_len (by k_asm) (by k_mem) (by tb_rel) ?_))) | ((first | ((show wpAny _ _ (call (Value.builtin "list.append") _) _ _ _); k_dflt (refine' m_append (by k_asm) (by k_asm) (by first | assumption | k_upd) (by tb_rel) ?_)) | ((show wpAny _ _ (call (Value.builtin "list.extend") _) _ _ _); (first | k_dflt (refine' m_extend_nil (by k_asm) (by k_asm) (by k_mem) (by k_upd) (by tb_rel) ?_) | k_dflt (refine' m_extend (by k_asm) (by k_asm) (by k_mem) (by kl_some) (by k_upd) (by tb_rel) (by tb_rel) ?_))) | ((show wpAny _ _ (call (Value.builtin "list.pop") _) _ _ _); k_dflt (refine' m_pop (by k_asm) (by k_asm) (by k_upd) (by tb_rel) ?_))); intro hw Fw Nw; (try simp only [List.cons_append, List.nil_append] at Nw); (try k_sweep)))) | ((show wpAny _ _ (setItem (Value.ref _) (Value.int _ _) _) _ _ _); k_here; k_dflt (refine' m_set (by k_asm) (by k_asm) (by k_upd) (by tb_rel) (by tb_rel) (by tb_rel) ?_); intro hw Fw Nw; (try simp only [List.cons_append, List.nil_append] at Nw); (try k_sweep)) | ((show WhlIf _ _ _); (first | (refine WhlIf.yes (decide_eq_true (by tb_rel)) ?_) | (refine WhlIf.no (decide_eq_false (by tb_rel)) ?_))) | ((first | show wpAny _ _ (exec (Stmt.For (PySem.Expr.Name _ _) (PySem.Expr.Name _ _) _ _ _) _) _ _ _ | show wpAny _ _ (exec (Stmt.For (PySem.Expr.Name _ _) (PySem.Expr.Subscript _ _ _) _ _ _) _) _ _ _); k_here; (rename Fr _ _ _ _ => Fw'); (with_unfolding_all refine' For_invVF Fw' (by exact rfl) (by exact rfl) ?_); k_whole) | ((show wpAny _ _ (pyIter (Value.ref _)) _ _ _); k_here; (rename Fr _ _ _ _ => Fw'); (rename News _ _ _ _ => Nw'); (first | (with_unfolding_all refine iter_listUnr (vs := [_]) (by rfl) Fw' Nw' (by k_mem) (by rfl) (by rfl) ?_) | (with_unfolding_all refine iter_listUnr (vs := [_, _]) (by rfl) Fw' Nw' (by k_mem) (by rfl) (by rfl) ?_)); clear Fw'; intro iw lw; (try k_lt lw)) | ((show wpAny _ _ (subscriptTail _ _ (Value.ref _) (Value.int _ _)) _ _ _); k_here; (first | k_dflt (refine' m_getT (by k_asm) (by k_mem) (by decide) (by first | decide | tb_rel) (by rfl) ?_ (by with_unfolding_all rfl)) | k_dflt (refine' m_get (by k_asm) (by k_mem) (by first | decide | tb_rel) (by first | decide | tb_rel) (by first | assumption | rfl) ?_ (by with_unfolding_all rfl) (by intro _; with_unfolding_all rfl)))) | ((show wpAny _ _ (callWith _ (Prod.fst (Value.builtin _, _)) (Prod.snd (_, _ :: _)) (backTo _ (starEach (_ :: _) _)) []) _ _ _); refine callWith_method1 ?_ (by with_unfolding_all rfl) (by with_unfolding_all rfl)) | ((show wpAny _ _ (compareOp _ (Value.str _ _) _) _ _ _); k_here; (first | ((show wpAny _ _ (compareOp CmpOp.Eq (Value.str _ _) (Value.str _ _)) _ _ _); refine m_eqS (by assumption) ?_) | ((show wpAny _ _ (compareOp CmpOp.In (Value.str _ _) (Value.ref _)) _ _ _); (first | k_dflt (refine' m_inT (by k_asm) (by k_mem) (by assumption) ?_) | k_dflt (refine' m_inTop (by k_asm) (by k_asm) (by k_is) (by kde_strs) (by first | assumption | rfl | decide) ?_))))) | ((show wpAny _ _ (binaryOp _ (Value.ref _) _) _ _ _); k_here; (first | ((show wpAny _ _ (binaryOp Operator.Add (Value.ref _) (Value.ref _)) _ _ _); k_dflt (refine' m_add (by k_asm) (by k_asm) (by k_mem) (by k_mem) (by tb_rel) (by tb_rel) ?_)) | ((show wpAny _ _ (binaryOp Operator.Mult (Value.ref _) (Value.int _ _)) _ _ _); k_dflt (refine' m_mul (by k_asm) (by k_asm) (by k_mem) (by rfl) (by omega) ?_))); intro Dw hw Fw Nw lw; (try k_lt lw); (try k_sweep))) | ((with_reducible show UnrEnd _ _ _ _ _ _ _); (rename Fr _ _ _ _ => uF); (rename News _ _ _ _ => uN); k_dflt (apply unr_off uF uN (by k_mem)); (· repeat (first | exact off_nil | (apply off_all; tbn_find) | apply off_eq | (apply off_ne; · k_ne))); refine ⟨by k_mem, ?_⟩) | walk1 | (dsimp only; walk1) | (leave1; (try dsimp only))))
        rename Fr _ _ _ _ => kF
        rename News _ _ _ _ => kN
        exact str_keep hov kF rfl rfl kN (by k_mem) (by k_mem) (fun p hp => by repeat (first | exact hp | refine List.Mem.tail _ ?_))
    case done =>
      clear lF lN hT
      intro S kk' Ta h2 tk2 u2 hS hsub2 hoff2 F2 N2
      repeat' (first | (k_unfold; (try dsimp only)) | (k_end; wrow_close) | (with_reducible first | ((show wpAny _ _ (call (Value.builtin _) _) _ _ _); k_here; (first | ((show wpAny _ _ (call (Value.builtin "len") _) _ _ _); (first | k_dflt (refine' m_lenL (by k_asm) (by k_mem) (by first | (show _ = (0 : Int); rfl) | (show _ = (1 : Int); rfl) | (show _ = (2 : Int); rfl) | (show _ = (3 : Int); rfl) | (show _ = (4 : Int); rfl)) (by decide) ?_) | k_dflt (refine' m_len (by k_asm) (by k_mem) (by tb_rel) ?_))) | ((first | ((show wpAny _ _ (call (Value.builtin "list.append") _) _ _ _); k_dflt (refine' m_append (by k_asm) (by k_asm) (by first | assumption | k_upd) (by tb_rel) ?_)) | ((show wpAny _ _ (call (Value.builtin "list.extend") _) _ _ _); (first | k_dflt (refine' m_extend_nil (by k_asm) (by k_asm) (by k_mem) (by k_upd) (by tb_rel) ?_) | k_dflt (refine' m_extend (by k_asm) (by k_asm) (by k_mem) (by kl_some) (by k_upd) (by tb_rel) (by tb_rel) ?_))) | ((show wpAny _ _ (call (Value.builtin "list.pop") _) _ _ _); k_dflt (refine' m_pop (by k_asm) (by k_asm) (by k_upd) (by tb_rel) ?_))); intro hw Fw Nw; (try simp only [List.cons_append, List.nil_append] at Nw); (try k_sweep)))) | ((show wpAny _ _ (setItem (Value.ref _) (Value.int _ _) _) _ _ _); k_here; k_dflt (refine' m_set (by k_asm) (by k_asm) (by k_upd) (by tb_rel) (by tb_rel) (by tb_rel) ?_); intro hw Fw Nw; (try simp only [List.cons_append, List.nil_append] at Nw); (try k_sweep)) | ((show WhlIf _ _ _); (first | (refine WhlIf.yes (decide_eq_true (by tb_rel)) ?_) | (refine WhlIf.no (decide_eq_false (by tb_rel)) ?_))) | ((first | show wpAny _ _ (exec (Stmt.For (PySem.Expr.Name _ _) (PySem.Expr.Name _ _) _ _ _) _) _ _ _ | show wpAny _ _ (exec (Stmt.For (PySem.Expr.Name _ _) (PySem.Expr.Subscript _ _ _) _ _ _) _) _ _ _); k_here; (rename Fr _ _ _ _ => Fw'); (with_unfolding_all refine' For_invVF Fw' (by exact rfl) (by exact rfl) ?_); k_whole) | ((show wpAny _ _ (pyIter (Value.ref _)) _ _ _); k_here; (rename Fr _ _ _ _ => Fw'); (rename News _ _ _ _ => Nw'); (first | (with_unfolding_all refine iter_listUnr (vs := [_]) (by rfl) Fw' Nw' (by k_mem) (by rfl) (by rfl) ?_) | (with_unfolding_all refine iter_listUnr (vs := [_, _]) (by rfl) Fw' Nw' (by k_mem) (by rfl) (by rfl) ?_)); clear Fw'; intro iw lw; (try k_lt lw)) | ((show wpAny _ _ (subscriptTail _ _ (Value.ref _) (Value.int _ _)) _ _ _); k_here; (first | k_dflt (refine' m_getT (by k_asm) (by k_mem) (by decide) (by first | decide | tb_rel) (by rfl) ?_ (by with_unfolding_all rfl)) | k_dflt (refine' m_get (by k_asm) (by k_mem) (by first | decide | tb_rel) (by first | decide | tb_rel) (by first | assumption | rfl) ?_ (by with_unfolding_all rfl) (by intro _; with_unfolding_all rfl)))) | ((show wpAny _ _ (callWith _ (Prod.fst (Value.builtin _, _)) (Prod.snd (_, _ :: _)) (backTo _ (starEach (_ :: _) _)) []) _ _ _); refine callWith_method1 ?_ (by with_unfolding_all rfl) (by with_unfolding_all rfl)) | ((show wpAny _ _ (compareOp _ (Value.str _ _) _) _ _ _); k_here; (first | ((show wpAny _ _ (compareOp CmpOp.Eq (Value.str _ _) (Value.str _ _)) _ _ _); refine m_eqS (by assumption) ?_) | ((show wpAny _ _ (compareOp CmpOp.In (Value.str _ _) (Value.ref _)) _ _ _); (first | k_dflt (refine' m_inT (by k_asm) (by k_mem) (by assumption) ?_) | k_dflt (refine' m_inTop (by k_asm) (by k_asm) (by k_is) (by kde_strs) (by first | assumption | rfl | decide) ?_))))) | ((show wpAny _ _ (binaryOp _ (Value.ref _) _) _ _ _); k_here; (first | ((show wpAny _ _ (binaryOp Operator.Add (Value.ref _) (Value.ref _)) _ _ _); k_dflt (refine' m_add (by k_asm) (by k_asm) (by k_mem) (by k_mem) (by tb_rel) (by tb_rel) ?_)) | ((show wpAny _ _ (binaryOp Operator.Mult (Value.ref _) (Value.int _ _)) _ _ _); k_dflt (refine' m_mul (by k_asm) (by k_asm) (by k_mem) (by rfl) (by omega) ?_))); intro Dw hw Fw Nw lw; (try k_lt lw); (try k_sweep))) | ((with_reducible show UnrEnd _ _ _ _ _ _ _); (rename Fr _ _ _ _ => uF); (rename News _ _ _ _ => uN); k_dflt (apply unr_off uF uN (by k_mem)); (· repeat (first | exact off_nil | (apply off_all; tbn_find) | apply off_eq | (apply off_ne; · k_ne))); refine ⟨by k_mem, ?_⟩) | walk1 | (dsimp only; walk1) | (leave1; (try dsimp only)))
      rename Fr _ _ _ _ => kF
      rename News _ _ _ _ => kN
      exact hret _ _ _ _ kF kN ⟨_, S, _, rfl, (fun p hp => by have := hsub2 _ (hsub _ hp); repeat (first | exact this | refine List.Mem.tail _ ?_)), by k_mem, hS.mono (fun p hp => by repeat (first | exact hp | refine List.Mem.tail _ ?_))⟩
theorem range_down (n : Nat) : Builtin.Range.rangeSize ((n : Int) - 1) (-1) (-1) = (n : Int) := by
  unfold Builtin.Range.rangeSize
  rw [if_neg (by decide)]
  simp only [Int.neg_neg, Int.ediv_one]
  split <;> omega
set_option maxRecDepth 100000 in
set_option maxHeartbeats 16000000 in
theorem crep (w : World) (n : Nat) (td : Tok) (T : List (Addr × Obj)) (hn : n ≤ 700) : CallOf w 302 7 147 [.int n td] T (fun T' r => ∃ a vs k, r = .ref a ∧ (∀ p ∈ T, p ∈ T') ∧ (a, listOf vs.toArray k) ∈ T' ∧ OrdsIn T' vs (code (repN n) 0)) := by
  w_top off
  unfold CallOf
  intro mg_ mb_ mean_ gd_ cn_ cs_ a_ ccd_ cl_ outer_ A_ base_ hb_ L_ m_ s_ Q_ E_ B_ F_ X_ N_ Tp_ hk_ hret
  refine wpAny_call ?_
  k_dflt ktr_enter
  repeat' ((fail_if_success (with_reducible show wpAny _ _ (pyIter _) _ _ _)); (first | (k_unfold; (try dsimp only)) | (k_end; wrow_close) | (with_reducible first | ((show wpAny _ _ (call (Value.builtin _) _) _ _ _); k_here; (first | ((show wpAny _ _ (call (Value.builtin "len") _) _ _ _); (first | k_dflt (refine' m_lenL (by k_asm) (by k_mem) (by first | (show _ = (0 : Int); rfl) | (show _ = (1 : Int); rfl) | (show _ = (2 : Int); rfl) | (show _ = (3 : Int); rfl) | (show _ = (4 : Int); rfl)) (by decide) ?_) | k_dflt (refine' m_len (by k_asm) (by k_mem) (by tb_rel) ?_))) | ((first | ((show wpAny _ _ (call (Value.builtin "list.append") _) _ _ _); k_dflt (refine' m_append (by k_asm) (by k_asm) (by first | assumption | k_upd) (by tb_rel) ?_)) | ((show wpAny _ _ (call (Value.builtin "list.extend") _) _ _ _); (first | k_dflt (refine' m_extend_nil (by k_asm) (by k_asm) (by k_mem) (by k_upd) (by tb_rel) ?_) | k_dflt (refine' m_extend (by k_asm) (by k_asm) (by k_mem) (by kl_some) (by k_upd) (by tb_rel) (by tb_rel) ?_))) | ((show wpAny _ _ (call (Value.builtin "list.pop") _) _ _ _); k_dflt (refine' m_pop (by k_asm) (by k_asm) (by k_upd) (by tb_rel) ?_))); intro hw Fw Nw; (try simp only [List.cons_append, List.nil_append] at Nw); (try k_sweep)))) | ((show wpAny _ _ (setItem (Value.ref _) (Value.int _ _) _) _ _ _); k_here; k_dflt (refine' m_set (by k_asm) (by k_asm) (by k_upd) (by tb_rel) (by tb_rel) (by tb_rel) ?_); intro hw Fw Nw; (try simp only [List.cons_append, List.nil_append] at Nw); (try k_sweep)) | ((show WhlIf _ _ _); (first | (refine WhlIf.yes (decide_eq_true (by tb_rel)) ?_) | (refine WhlIf.no (decide_eq_false (by tb_rel)) ?_))) | ((first | show wpAny _ _ (exec (Stmt.For (PySem.Expr.Name _ _) (PySem.Expr.Name _ _) _ _ _) _) _ _ _ | show wpAny _ _ (exec (Stmt.For (PySem.Expr.Name _ _) (PySem.Expr.Subscript _ _ _) _ _ _) _) _ _ _); k_here; (rename Fr _ _ _ _ => Fw'); (with_unfolding_all refine' For_invVF Fw' (by exact rfl) (by exact rfl) ?_); k_whole) | ((show wpAny _ _ (pyIter (Value.ref _)) _ _ _); k_here; (rename Fr _ _ _ _ => Fw'); (rename News _ _ _ _ => Nw'); (first | (with_unfolding_all refine iter_listUnr (vs := [_]) (by rfl) Fw' Nw' (by k_mem) (by rfl) (by rfl) ?_) | (with_unfolding_all refine iter_listUnr (vs := [_, _]) (by rfl) Fw' Nw' (by k_mem) (by rfl) (by rfl) ?_)); clear Fw'; intro iw lw; (try k_lt lw)) | ((show wpAny _ _ (subscriptTail _ _ (Value.ref _) (Value.int _ _)) _ _ _); k_here; (first | k_dflt (refine' m_getT (by k_asm) (by k_mem) (by decide) (by first | decide | tb_rel) (by rfl) ?_ (by with_unfolding_all rfl)) | k_dflt (refine' m_get (by k_asm) (by k_mem) (by first | decide | tb_rel) (by first | decide | tb_rel) (by first | assumption | rfl) ?_ (by with_unfolding_all rfl) (by intro _; with_unfolding_all rfl)))) | ((show wpAny _ _ (callWith _ (Prod.fst (Value.builtin _, _)) (Prod.snd (_, _ :: _)) (backTo _ (starEach (_ :: _) _)) []) _ _ _); refine callWith_method1 ?_ (by with_unfolding_all rfl) (by with_unfolding_all rfl)) | ((show wpAny _ _ (compareOp _ (Value.str _ _) _) _ _ _); k_here; (first | ((show wpAny _ _ (compareOp CmpOp.Eq (Value.str _ _) (Value.str _ _)) _ _ _); refine m_eqS (by assumption) ?_) | ((show wpAny _ _ (compareOp CmpOp.In (Value.str _ _) (Value.ref _)) _ _ _); (first | k_dflt (refine' m_inT (by k_asm) (by k_mem) (by assumption) ?_) | k_dflt (refine' m_inTop (by k_asm) (by k_asm) (by k_is) (by kde_strs) (by first | assumption | rfl | decide) ?_))))) | ((show wpAny _ _ (binaryOp _ (Value.ref _) _) _ _ _); k_here; (first | ((show wpAny _ _ (binaryOp Operator.Add (Value.ref _) (Value.ref _)) _ _ _); k_dflt (refine' m_add (by k_asm) (by k_asm) (by k_mem) (by k_mem) (by tb_rel) (by tb_rel) ?_)) | ((show wpAny _ _ (binaryOp Operator.Mult (Value.ref _) (Value.int _ _)) _ _ _); k_dflt (refine' m_mul (by k_asm) (by k_asm) (by k_mem) (by rfl) (by omega) ?_))); intro Dw hw Fw Nw lw; (try k_lt lw); (try k_sweep))) | ((with_reducible show UnrEnd _ _ _ _ _ _ _); (rename Fr _ _ _ _ => uF); (rename News _ _ _ _ => uN); k_dflt (apply unr_off uF uN (by k_mem)); (· repeat (first | exact off_nil | (apply off_all; tbn_find) | apply off_eq | (apply off_ne; · k_ne))); refine ⟨by k_mem, ?_⟩) | walk1 | (dsimp only; walk1) | (leave1; (try dsimp only))))
  rename Fr _ _ _ _ => aF
  rename News _ _ _ _ => aN
  rename IsRange _ _ _ _ _ _ _ _ => aR
  rename ∀ p ∈ T, p.1 < _ => hlt
  refine grow_iter (T0 := T) n (fun i Ta S => (∀ p ∈ T, p ∈ Ta) ∧ OOrds Ta S (repStart i)) (by rfl) aR (small_one (by omega) (by omega) (by omega) (by omega)) (by rw [rangeSize_nat]; omega) aF aN (by rfl) (by rfl) (by k_mem) (fun p hp => .tail _ hp) ?hoff ⟨fun p hp => hp, .nil⟩ ?turn ?done
  case hoff => exact fun p hp b hb => (List.mem_singleton.mp hb) ▸ Nat.ne_of_lt (hlt p hp)
  case turn =>
    clear aF aN aR
    rintro i k t S kk Ta Tb h tk u hi hk hTT ho ⟨hR1, hR2⟩ F' N'
    obtain rfl : k = (i : Int) := by omega
    clear hk
    have hSl := hR2.length
    rw [repStart_length] at hSl
    (try dsimp only)
    repeat' ((fail_if_success (with_reducible show GrowPost _ _ _ _ _ _ _ _ _ _ _)); (first | (k_unfold; (try dsimp only)) | (k_end; wrow_close) | (with_reducible first | ((show wpAny _ _ (call (Value.builtin _) _) _ _ _); k_here; (first | ((show wpAny _ _ (call (Value.builtin "len") _) _ _ _); (first | k_dflt (refine' m_lenL (by k_asm) (by k_mem) (by first | (show _ = (0 : Int); rfl) | (show _ = (1 : Int); rfl) | (show _ = (2 : Int); rfl) | (show _ = (3 : Int); rfl) | (show _ = (4 : Int); rfl)) (by decide) ?_) | k_dflt (refine' m_len (by k_asm) (by k_mem) (by tb_rel) ?_))) | ((first | ((show wpAny _ _ (call (Value.builtin "list.append") _) _ _ _); k_dflt (refine' m_append (by k_asm) (by k_asm) (by first | assumption | k_upd) (by tb_rel) ?_)) | ((show wpAny _ _ (call (Value.builtin "list.extend") _) _ _ _); (first | k_dflt (refine' m_extend_nil (by k_asm) (by k_asm) (by k_mem) (by k_upd) (by tb_rel) ?_) | k_dflt (refine' m_extend (by k_asm) (by k_asm) (by k_mem) (by kl_some) (by k_upd) (by tb_rel) (by tb_rel) ?_))) | ((show wpAny _ _ (call (Value.builtin "list.pop") _) _ _ _); k_dflt (refine' m_pop (by k_asm) (by k_asm) (by k_upd) (by tb_rel) ?_))); intro hw Fw Nw; (try simp only [List.cons_append, List.nil_append] at Nw); (try k_sweep)))) | ((show wpAny _ _ (setItem (Value.ref _) (Value.int _ _) _) _ _ _); k_here; k_dflt (refine' m_set (by k_asm) (by k_asm) (by k_upd) (by tb_rel) (by tb_rel) (by tb_rel) ?_); intro hw Fw Nw; (try simp only [List.cons_append, List.nil_append] at Nw); (try k_sweep)) | ((show WhlIf _ _ _); (first | (refine WhlIf.yes (decide_eq_true (by tb_rel)) ?_) | (refine WhlIf.no (decide_eq_false (by tb_rel)) ?_))) | ((first | show wpAny _ _ (exec (Stmt.For (PySem.Expr.Name _ _) (PySem.Expr.Name _ _) _ _ _) _) _ _ _ | show wpAny _ _ (exec (Stmt.For (PySem.Expr.Name _ _) (PySem.Expr.Subscript _ _ _) _ _ _) _) _ _ _); k_here; (rename Fr _ _ _ _ => Fw'); (with_unfolding_all refine' For_invVF Fw' (by exact rfl) (by exact rfl) ?_); k_whole) | ((show wpAny _ _ (pyIter (Value.ref _)) _ _ _); k_here; (rename Fr _ _ _ _ => Fw'); (rename News _ _ _ _ => Nw'); (first | (with_unfolding_all refine iter_listUnr (vs := [_]) (by rfl) Fw' Nw' (by k_mem) (by rfl) (by rfl) ?_) | (with_unfolding_all refine iter_listUnr (vs := [_, _]) (by rfl) Fw' Nw' (by k_mem) (by rfl) (by rfl) ?_)); clear Fw'; intro iw lw; (try k_lt lw)) | ((show wpAny _ _ (subscriptTail _ _ (Value.ref _) (Value.int _ _)) _ _ _); k_here; (first | k_dflt (refine' m_getT (by k_asm) (by k_mem) (by decide) (by first | decide | tb_rel) (by rfl) ?_ (by with_unfolding_all rfl)) | k_dflt (refine' m_get (by k_asm) (by k_mem) (by first | decide | tb_rel) (by first | decide | tb_rel) (by first | assumption | rfl) ?_ (by with_unfolding_all rfl) (by intro _; with_unfolding_all rfl)))) | ((show wpAny _ _ (callWith _ (Prod.fst (Value.builtin _, _)) (Prod.snd (_, _ :: _)) (backTo _ (starEach (_ :: _) _)) []) _ _ _); refine callWith_method1 ?_ (by with_unfolding_all rfl) (by with_unfolding_all rfl)) | ((show wpAny _ _ (compareOp _ (Value.str _ _) _) _ _ _); k_here; (first | ((show wpAny _ _ (compareOp CmpOp.Eq (Value.str _ _) (Value.str _ _)) _ _ _); refine m_eqS (by assumption) ?_) | ((show wpAny _ _ (compareOp CmpOp.In (Value.str _ _) (Value.ref _)) _ _ _); (first | k_dflt (refine' m_inT (by k_asm) (by k_mem) (by assumption) ?_) | k_dflt (refine' m_inTop (by k_asm) (by k_asm) (by k_is) (by kde_strs) (by first | assumption | rfl | decide) ?_))))) | ((show wpAny _ _ (binaryOp _ (Value.ref _) _) _ _ _); k_here; (first | ((show wpAny _ _ (binaryOp Operator.Add (Value.ref _) (Value.ref _)) _ _ _); k_dflt (refine' m_add (by k_asm) (by k_asm) (by k_mem) (by k_mem) (by tb_rel) (by tb_rel) ?_)) | ((show wpAny _ _ (binaryOp Operator.Mult (Value.ref _) (Value.int _ _)) _ _ _); k_dflt (refine' m_mul (by k_asm) (by k_asm) (by k_mem) (by rfl) (by omega) ?_))); intro Dw hw Fw Nw lw; (try k_lt lw); (try k_sweep))) | ((with_reducible show UnrEnd _ _ _ _ _ _ _); (rename Fr _ _ _ _ => uF); (rename News _ _ _ _ => uN); k_dflt (apply unr_off uF uN (by k_mem)); (· repeat (first | exact off_nil | (apply off_all; tbn_find) | apply off_eq | (apply off_ne; · k_ne))); refine ⟨by k_mem, ?_⟩) | walk1 | (dsimp only; walk1) | (leave1; (try dsimp only))))
    rename News _ _ _ _ => kN
    rename Fr _ _ _ _ => kF
    refine grow_end [_, _, _] (by assumption) ?hX kF (by rfl) (by rfl) kN ?hN
    case hX => repeat (first | exact True.intro | (refine And.intro (by (try dsimp only); omega) ?_))
    case hN =>
      refine ⟨fun p hp => List.mem_append_right _ (hR1 p hp), ?_⟩
      rw [repStart_succ]
      refine (hR2.mono fun p hp => List.mem_append_right _ hp).append (.cons (OrdIn.split' (List.mem_append_left _ (by k_mem)) (by omega)) (.cons rfl (.cons (OrdIn.mark (List.mem_append_left _ (by k_mem))) .nil)))
  case done =>
    clear aF aN aR
    rintro S kk Ta h tk u ho ⟨hR1, hR2⟩ F' N'
    have hSl := hR2.length
    rw [repStart_length] at hSl
    (try dsimp only)
    repeat' ((fail_if_success (with_reducible show wpAny _ _ (pyIter _) _ _ _)); (first | (k_unfold; (try dsimp only)) | (k_end; wrow_close) | (with_reducible first | ((show wpAny _ _ (call (Value.builtin _) _) _ _ _); k_here; (first | ((show wpAny _ _ (call (Value.builtin "len") _) _ _ _); (first | k_dflt (refine' m_lenL (by k_asm) (by k_mem) (by first | (show _ = (0 : Int); rfl) | (show _ = (1 : Int); rfl) | (show _ = (2 : Int); rfl) | (show _ = (3 : Int); rfl) | (show _ = (4 : Int); rfl)) (by decide) ?_) | k_dflt (refine' m_len (by k_asm) (by k_mem) (by tb_rel) ?_))) | ((first | ((show wpAny _ _ (call (Value.builtin "list.append") _) _ _ _); k_dflt (refine' m_append (by k_asm) (by k_asm) (by first | assumption | k_upd) (by tb_rel) ?_)) | ((show wpAny _ _ (call (Value.builtin "list.extend") _) _ _ _); (first | k_dflt (refine' m_extend_nil (by k_asm) (by k_asm) (by k_mem) (by k_upd) (by tb_rel) ?_) | k_dflt (refine' m_extend (by k_asm) (by k_asm) (by k_mem) (by kl_some) (by k_upd) (by tb_rel) (by tb_rel) ?_))) | ((show wpAny _ _ (call (Value.builtin "list.pop") _) _ _ _); k_dflt (refine' m_pop (by k_asm) (by k_asm) (by k_upd) (by tb_rel) ?_))); intro hw Fw Nw; (try simp only [List.cons_append, List.nil_append] at Nw); (try k_sweep)))) | ((show wpAny _ _ (setItem (Value.ref _) (Value.int _ _) _) _ _ _); k_here; k_dflt (refine' m_set (by k_asm) (by k_asm) (by k_upd) (by tb_rel) (by tb_rel) (by tb_rel) ?_); intro hw Fw Nw; (try simp only [List.cons_append, List.nil_append] at Nw); (try k_sweep)) | ((show WhlIf _ _ _); (first | (refine WhlIf.yes (decide_eq_true (by tb_rel)) ?_) | (refine WhlIf.no (decide_eq_false (by tb_rel)) ?_))) | ((first | show wpAny _ _ (exec (Stmt.For (PySem.Expr.Name _ _) (PySem.Expr.Name _ _) _ _ _) _) _ _ _ | show wpAny _ _ (exec (Stmt.For (PySem.Expr.Name _ _) (PySem.Expr.Subscript _ _ _) _ _ _) _) _ _ _); k_here; (rename Fr _ _ _ _ => Fw'); (with_unfolding_all refine' For_invVF Fw' (by exact rfl) (by exact rfl) ?_); k_whole) | ((show wpAny _ _ (pyIter (Value.ref _)) _ _ _); k_here; (rename Fr _ _ _ _ => Fw'); (rename News _ _ _ _ => Nw'); (first | (with_unfolding_all refine iter_listUnr (vs := [_]) (by rfl) Fw' Nw' (by k_mem) (by rfl) (by rfl) ?_) | (with_unfolding_all refine iter_listUnr (vs := [_, _]) (by rfl) Fw' Nw' (by k_mem) (by rfl) (by rfl) ?_)); clear Fw'; intro iw lw; (try k_lt lw)) | ((show wpAny _ _ (subscriptTail _ _ (Value.ref _) (Value.int _ _)) _ _ _); k_here; (first | k_dflt (refine' m_getT (by k_asm) (by k_mem) (by decide) (by first | decide | tb_rel) (by rfl) ?_ (by with_unfolding_all rfl)) | k_dflt (refine' m_get (by k_asm) (by k_mem) (by first | decide | tb_rel) (by first | decide | tb_rel) (by first | assumption | rfl) ?_ (by with_unfolding_all rfl) (by intro _; with_unfolding_all rfl)))) | ((show wpAny _ _ (callWith _ (Prod.fst (Value.builtin _, _)) (Prod.snd (_, _ :: _)) (backTo _ (starEach (_ :: _) _)) []) _ _ _); refine callWith_method1 ?_ (by with_unfolding_all rfl) (by with_unfolding_all rfl)) | ((show wpAny _ _ (compareOp _ (Value.str _ _) _) _ _ _); k_here; (first | ((show wpAny _ _ (compareOp CmpOp.Eq (Value.str _ _) (Value.str _ _)) _ _ _); refine m_eqS (by assumption) ?_) | ((show wpAny _ _ (compareOp CmpOp.In (Value.str _ _) (Value.ref _)) _ _ _); (first | k_dflt (refine' m_inT (by k_asm) (by k_mem) (by assumption) ?_) | k_dflt (refine' m_inTop (by k_asm) (by k_asm) (by k_is) (by kde_strs) (by first | assumption | rfl | decide) ?_))))) | ((show wpAny _ _ (binaryOp _ (Value.ref _) _) _ _ _); k_here; (first | ((show wpAny _ _ (binaryOp Operator.Add (Value.ref _) (Value.ref _)) _ _ _); k_dflt (refine' m_add (by k_asm) (by k_asm) (by k_mem) (by k_mem) (by tb_rel) (by tb_rel) ?_)) | ((show wpAny _ _ (binaryOp Operator.Mult (Value.ref _) (Value.int _ _)) _ _ _); k_dflt (refine' m_mul (by k_asm) (by k_asm) (by k_mem) (by rfl) (by omega) ?_))); intro Dw hw Fw Nw lw; (try k_lt lw); (try k_sweep))) | ((with_reducible show UnrEnd _ _ _ _ _ _ _); (rename Fr _ _ _ _ => uF); (rename News _ _ _ _ => uN); k_dflt (apply unr_off uF uN (by k_mem)); (· repeat (first | exact off_nil | (apply off_all; tbn_find) | apply off_eq | (apply off_ne; · k_ne))); refine ⟨by k_mem, ?_⟩) | walk1 | (dsimp only; walk1) | (leave1; (try dsimp only))))
    rename Fr _ _ _ _ => bF
    rename News _ _ _ _ => bN
    rename IsRange _ _ _ _ _ _ _ _ => bR
    refine grow_iter1 (T1 := Ta) n (fun i Ta S => (∀ p ∈ T, p ∈ Ta) ∧ OOrds Ta S (repA n i ++ ([some (.one "len" 1)] ++ repB n i))) (by rfl) bR (small_down (by omega) (by omega) (by omega) (by omega)) (range_down n) bF bN (by rfl) (by rfl) (by k_mem) (by k_mem) (fun p hp => .tail _ (.tail _ hp)) ?hoff2 ho (fun T0 h1 h2 => ⟨fun p hp => h1 p (hR1 p hp), ?h0⟩) ?turn2 ?done2
    case hoff2 => refine neN ?_; (try dsimp only); omega
    case h0 =>
      rw [repA_zero]
      exact (hR2.mono h1).append (.cons h2 .nil)
    case turn2 =>
      clear bF bN bR
      rintro i k t S2 kk2 Ta2 Tb h2 tk2 u2 hi hk hTT ho2 ⟨hR3, hR4⟩ F' N'
      obtain rfl : k = ((n - 1 - i : Nat) : Int) := by omega
      clear hk
      have hi2 : n - 1 - i < n := by omega
      have hS2 : S2.length = 3 * n + 1 + 2 * i := by
        have e := hR4.length
        rw [List.length_append, List.length_append, repA_length, repB_length] at e
        simpa [Nat.add_assoc] using e
      (try dsimp only)
      repeat' ((fail_if_success (with_reducible show GrowPost _ _ _ _ _ _ _ _ _ _ _)); (first | (k_unfold; (try dsimp only)) | (k_end; wrow_close) | (with_reducible first | ((show wpAny _ _ (call (Value.builtin _) _) _ _ _); k_here; (first | ((show wpAny _ _ (call (Value.builtin "len") _) _ _ _); (first | k_dflt (refine' m_lenL (by k_asm) (by k_mem) (by first | (show _ = (0 : Int); rfl) | (show _ = (1 : Int); rfl) | (show _ = (2 : Int); rfl) | (show _ = (3 : Int); rfl) | (show _ = (4 : Int); rfl)) (by decide) ?_) | k_dflt (refine' m_len (by k_asm) (by k_mem) (by tb_rel) ?_))) | ((first | ((show wpAny _ _ (call (Value.builtin "list.append") _) _ _ _); k_dflt (refine' m_append (by k_asm) (by k_asm) (by first | assumption | k_upd) (by tb_rel) ?_)) | ((show wpAny _ _ (call (Value.builtin "list.extend") _) _ _ _); (first | k_dflt (refine' m_extend_nil (by k_asm) (by k_asm) (by k_mem) (by k_upd) (by tb_rel) ?_) | k_dflt (refine' m_extend (by k_asm) (by k_asm) (by k_mem) (by kl_some) (by k_upd) (by tb_rel) (by tb_rel) ?_))) | ((show wpAny _ _ (call (Value.builtin "list.pop") _) _ _ _); k_dflt (refine' m_pop (by k_asm) (by k_asm) (by k_upd) (by tb_rel) ?_))); intro hw Fw Nw; (try simp only [List.cons_append, List.nil_append] at Nw); (try k_sweep)))) | ((show wpAny _ _ (setItem (Value.ref _) (Value.int _ _) _) _ _ _); k_here; k_dflt (refine' m_set (by k_asm) (by k_asm) (by k_upd) (by tb_rel) (by tb_rel) (by tb_rel) ?_); intro hw Fw Nw; (try simp only [List.cons_append, List.nil_append] at Nw); (try k_sweep)) | ((show WhlIf _ _ _); (first | (refine WhlIf.yes (decide_eq_true (by tb_rel)) ?_) | (refine WhlIf.no (decide_eq_false (by tb_rel)) ?_))) | ((first | show wpAny _ _ (exec (Stmt.For (PySem.Expr.Name _ _) (PySem.Expr.Name _ _) _ _ _) _) _ _ _ | show wpAny _ _ (exec (Stmt.For (PySem.Expr.Name _ _) (PySem.Expr.Subscript _ _ _) _ _ _) _) _ _ _); k_here; (rename Fr _ _ _ _ => Fw'); (with_unfolding_all refine' For_invVF Fw' (by exact rfl) (by exact rfl) ?_); k_whole) | ((show wpAny _ _ (pyIter (Value.ref _)) _ _ _); k_here; (rename Fr _ _ _ _ => Fw'); (rename News _ _ _ _ => Nw'); (first | (with_unfolding_all refine iter_listUnr (vs := [_]) (by rfl) Fw' Nw' (by k_mem) (by rfl) (by rfl) ?_) | (with_unfolding_all refine iter_listUnr (vs := [_, _]) (by rfl) Fw' Nw' (by k_mem) (by rfl) (by rfl) ?_)); clear Fw'; intro iw lw; (try k_lt lw)) | ((show wpAny _ _ (subscriptTail _ _ (Value.ref _) (Value.int _ _)) _ _ _); k_here; (first | k_dflt (refine' m_getT (by k_asm) (by k_mem) (by decide) (by first | decide | tb_rel) (by rfl) ?_ (by with_unfolding_all rfl)) | k_dflt (refine' m_get (by k_asm) (by k_mem) (by first | decide | tb_rel) (by first | decide | tb_rel) (by first | assumption | rfl) ?_ (by with_unfolding_all rfl) (by intro _; with_unfolding_all rfl)))) | ((show wpAny _ _ (callWith _ (Prod.fst (Value.builtin _, _)) (Prod.snd (_, _ :: _)) (backTo _ (starEach (_ :: _) _)) []) _ _ _); refine callWith_method1 ?_ (by with_unfolding_all rfl) (by with_unfolding_all rfl)) | ((show wpAny _ _ (compareOp _ (Value.str _ _) _) _ _ _); k_here; (first | ((show wpAny _ _ (compareOp CmpOp.Eq (Value.str _ _) (Value.str _ _)) _ _ _); refine m_eqS (by assumption) ?_) | ((show wpAny _ _ (compareOp CmpOp.In (Value.str _ _) (Value.ref _)) _ _ _); (first | k_dflt (refine' m_inT (by k_asm) (by k_mem) (by assumption) ?_) | k_dflt (refine' m_inTop (by k_asm) (by k_asm) (by k_is) (by kde_strs) (by first | assumption | rfl | decide) ?_))))) | ((show wpAny _ _ (binaryOp _ (Value.ref _) _) _ _ _); k_here; (first | ((show wpAny _ _ (binaryOp Operator.Add (Value.ref _) (Value.ref _)) _ _ _); k_dflt (refine' m_add (by k_asm) (by k_asm) (by k_mem) (by k_mem) (by tb_rel) (by tb_rel) ?_)) | ((show wpAny _ _ (binaryOp Operator.Mult (Value.ref _) (Value.int _ _)) _ _ _); k_dflt (refine' m_mul (by k_asm) (by k_asm) (by k_mem) (by rfl) (by omega) ?_))); intro Dw hw Fw Nw lw; (try k_lt lw); (try k_sweep))) | ((with_reducible show UnrEnd _ _ _ _ _ _ _); (rename Fr _ _ _ _ => uF); (rename News _ _ _ _ => uN); k_dflt (apply unr_off uF uN (by k_mem)); (· repeat (first | exact off_nil | (apply off_all; tbn_find) | apply off_eq | (apply off_ne; · k_ne))); refine ⟨by k_mem, ?_⟩) | walk1 | (dsimp only; walk1) | (leave1; (try dsimp only))))
      rename News _ _ _ _ => kN
      rename Fr _ _ _ _ => kF
      refine grow_end [_, _, _, _] (by assumption) ?hX kF (by rfl) (by rfl) kN ?hN
      case hX => repeat (first | exact True.intro | (refine And.intro (by (try dsimp only); omega) ?_))
      case hN =>
        refine ⟨fun p hp => List.mem_append_right _ (hR3 p hp), ?_⟩
        show OOrds _ _ (repA n (i + 1) ++ ([some (.one "len" 1)] ++ repB n (i + 1)))
        rw [← rep_turn hi]
        have e : (3 * ((n - 1 - i : Nat) : Int) + 1).toNat = 3 * (n - 1 - i) + 1 := by omega
        rw [e]
        refine OOrds.set ?A ?B _
        case A => exact OOrds.append (hR4.mono fun p hp => List.mem_append_right _ hp) (.cons (o := some .gain) (OrdIn.gain (List.mem_append_left _ (by k_mem))) (.cons (OrdIn.jump' (List.mem_append_left _ (by k_mem)) (by omega)) .nil))
        case B =>
          refine OrdIn.jump' (List.mem_append_left _ (by k_mem)) ?_
          simp only [List.length_append, List.length_cons, List.length_nil]; omega
    case done2 =>
      clear bF bN bR
      rintro S2 kk2 Ta2 h2 tk2 u2 ho2 ⟨hR3, hR4⟩ F' N'
      (try dsimp only)
      rw [rep_end] at hR4
      repeat' ((fail_if_success (with_reducible show Q_ _ _)); (first | (k_unfold; (try dsimp only)) | (k_end; wrow_close) | (with_reducible first | ((show wpAny _ _ (call (Value.builtin _) _) _ _ _); k_here; (first | ((show wpAny _ _ (call (Value.builtin "len") _) _ _ _); (first | k_dflt (refine' m_lenL (by k_asm) (by k_mem) (by first | (show _ = (0 : Int); rfl) | (show _ = (1 : Int); rfl) | (show _ = (2 : Int); rfl) | (show _ = (3 : Int); rfl) | (show _ = (4 : Int); rfl)) (by decide) ?_) | k_dflt (refine' m_len (by k_asm) (by k_mem) (by tb_rel) ?_))) | ((first | ((show wpAny _ _ (call (Value.builtin "list.append") _) _ _ _); k_dflt (refine' m_append (by k_asm) (by k_asm) (by first | assumption | k_upd) (by tb_rel) ?_)) | ((show wpAny _ _ (call (Value.builtin "list.extend") _) _ _ _); (first | k_dflt (refine' m_extend_nil (by k_asm) (by k_asm) (by k_mem) (by k_upd) (by tb_rel) ?_) | k_dflt (refine' m_extend (by k_asm) (by k_asm) (by k_mem) (by kl_some) (by k_upd) (by tb_rel) (by tb_rel) ?_))) | ((show wpAny _ _ (call (Value.builtin "list.pop") _) _ _ _); k_dflt (refine' m_pop (by k_asm) (by k_asm) (by k_upd) (by tb_rel) ?_))); intro hw Fw Nw; (try simp only [List.cons_append, List.nil_append] at Nw); (try k_sweep)))) | ((show wpAny _ _ (setItem (Value.ref _) (Value.int _ _) _) _ _ _); k_here; k_dflt (refine' m_set (by k_asm) (by k_asm) (by k_upd) (by tb_rel) (by tb_rel) (by tb_rel) ?_); intro hw Fw Nw; (try simp only [List.cons_append, List.nil_append] at Nw); (try k_sweep)) | ((show WhlIf _ _ _); (first | (refine WhlIf.yes (decide_eq_true (by tb_rel)) ?_) | (refine WhlIf.no (decide_eq_false (by tb_rel)) ?_))) | ((first | show wpAny _ _ (exec (Stmt.For (PySem.Expr.Name _ _) (PySem.Expr.Name _ _) _ _ _) _) _ _ _ | show wpAny _ _ (exec (Stmt.For (PySem.Expr.Name _ _) (PySem.Expr.Subscript _ _ _) _ _ _) _) _ _ _); k_here; (rename Fr _ _ _ _ => Fw'); (with_unfolding_all refine' For_invVF Fw' (by exact rfl) (by exact rfl) ?_); k_whole) | ((show wpAny _ _ (pyIter (Value.ref _)) _ _ _); k_here; (rename Fr _ _ _ _ => Fw'); (rename News _ _ _ _ => Nw'); (first | (with_unfolding_all refine iter_listUnr (vs := [_]) (by rfl) Fw' Nw' (by k_mem) (by rfl) (by rfl) ?_) | (with_unfolding_all refine iter_listUnr (vs := [_, _]) (by rfl) Fw' Nw' (by k_mem) (by rfl) (by rfl) ?_)); clear Fw'; intro iw lw; (try k_lt lw)) | ((show wpAny _ _ (subscriptTail _ _ (Value.ref _) (Value.int _ _)) _ _ _); k_here; (first | k_dflt (refine' m_getT (by k_asm) (by k_mem) (by decide) (by first | decide | tb_rel) (by rfl) ?_ (by with_unfolding_all rfl)) | k_dflt (refine' m_get (by k_asm) (by k_mem) (by first | decide | tb_rel) (by first | decide | tb_rel) (by first | assumption | rfl) ?_ (by with_unfolding_all rfl) (by intro _; with_unfolding_all rfl)))) | ((show wpAny _ _ (callWith _ (Prod.fst (Value.builtin _, _)) (Prod.snd (_, _ :: _)) (backTo _ (starEach (_ :: _) _)) []) _ _ _); refine callWith_method1 ?_ (by with_unfolding_all rfl) (by with_unfolding_all rfl)) | ((show wpAny _ _ (compareOp _ (Value.str _ _) _) _ _ _); k_here; (first | ((show wpAny _ _ (compareOp CmpOp.Eq (Value.str _ _) (Value.str _ _)) _ _ _); refine m_eqS (by assumption) ?_) | ((show wpAny _ _ (compareOp CmpOp.In (Value.str _ _) (Value.ref _)) _ _ _); (first | k_dflt (refine' m_inT (by k_asm) (by k_mem) (by assumption) ?_) | k_dflt (refine' m_inTop (by k_asm) (by k_asm) (by k_is) (by kde_strs) (by first | assumption | rfl | decide) ?_))))) | ((show wpAny _ _ (binaryOp _ (Value.ref _) _) _ _ _); k_here; (first | ((show wpAny _ _ (binaryOp Operator.Add (Value.ref _) (Value.ref _)) _ _ _); k_dflt (refine' m_add (by k_asm) (by k_asm) (by k_mem) (by k_mem) (by tb_rel) (by tb_rel) ?_)) | ((show wpAny _ _ (binaryOp Operator.Mult (Value.ref _) (Value.int _ _)) _ _ _); k_dflt (refine' m_mul (by k_asm) (by k_asm) (by k_mem) (by rfl) (by omega) ?_))); intro Dw hw Fw Nw lw; (try k_lt lw); (try k_sweep))) | ((with_reducible show UnrEnd _ _ _ _ _ _ _); (rename Fr _ _ _ _ => uF); (rename News _ _ _ _ => uN); k_dflt (apply unr_off uF uN (by k_mem)); (· repeat (first | exact off_nil | (apply off_all; tbn_find) | apply off_eq | (apply off_ne; · k_ne))); refine ⟨by k_mem, ?_⟩) | walk1 | (dsimp only; walk1) | (leave1; (try dsimp only))))
      rename News _ _ _ _ => kN
      rename Fr _ _ _ _ => kF
      exact hret _ _ _ _ kF kN ⟨_, _, _, rfl, fun p hp => .tail _ (hR3 p hp), .head _, hR4.all.mono fun p hp => .tail _ hp⟩
noncomputable def choS (n i : Nat) : List (Option Ord) := (List.range i).map fun j => some (Ord.split (4 * n - 3 * j))
noncomputable def choB (n i : Nat) : List (Option Ord) := (List.range i).flatMap fun j => [some (Ord.one "pos" 2), some (Ord.jump (n + 4 + 3 * j)), some (Ord.one "pos" 3)]
theorem choS_length (n i : Nat) : (choS n i).length = i := by simp [choS]
theorem choB_length (n i : Nat) : (choB n i).length = 3 * i := by
  unfold choB
  induction i with
  | zero => rfl
  | succ t ih => rw [List.range_succ, List.flatMap_append, List.length_append, ih]; simp; omega
theorem choS_succ (n i : Nat) : choS n (i + 1) = choS n i ++ [some (Ord.split (4 * n - 3 * i))] := by
  unfold choS; rw [List.range_succ, List.map_append]; rfl
theorem choB_succ (n i : Nat) : choB n (i + 1) = choB n i ++ [some (Ord.one "pos" 2), some (Ord.jump (n + 4 + 3 * i)), some (Ord.one "pos" 3)] := by
  unfold choB; rw [List.range_succ, List.flatMap_append]; rfl
set_option maxRecDepth 100000 in
set_option maxHeartbeats 16000000 in
theorem ccho (w : World) (n : Nat) (td : Tok) (T : List (Addr × Obj)) (hn : n ≤ 700) : CallOf w 302 7 154 [.int n td] T (fun T' r => ∃ a vs k, r = .ref a ∧ (∀ p ∈ T, p ∈ T') ∧ (a, listOf vs.toArray k) ∈ T' ∧ OrdsIn T' vs (code (choN n) 0)) := by
  w_top off
  unfold CallOf
  intro mg_ mb_ mean_ gd_ cn_ cs_ a_ ccd_ cl_ outer_ A_ base_ hb_ L_ m_ s_ Q_ E_ B_ F_ X_ N_ Tp_ hk_ hret
  refine wpAny_call ?_
  k_dflt ktr_enter
  repeat' ((fail_if_success (with_reducible show wpAny _ _ (pyIter _) _ _ _)); (first | (k_unfold; (try dsimp only)) | (k_end; wrow_close) | (with_reducible first | ((show wpAny _ _ (call (Value.builtin _) _) _ _ _); k_here; (first | ((show wpAny _ _ (call (Value.builtin "len") _) _ _ _); (first | k_dflt (refine' m_lenL (by k_asm) (by k_mem) (by first | (show _ = (0 : Int); rfl) | (show _ = (1 : Int); rfl) | (show _ = (2 : Int); rfl) | (show _ = (3 : Int); rfl) | (show _ = (4 : Int); rfl)) (by decide) ?_) | k_dflt (refine' m_len (by k_asm) (by k_mem) (by tb_rel) ?_))) | ((first | ((show wpAny _ _ (call (Value.builtin "list.append") _) _ _ _); k_dflt (refine' m_append (by k_asm) (by k_asm) (by first | assumption | k_upd) (by tb_rel) ?_)) | ((show wpAny _ _ (call (Value.builtin "list.extend") _) _ _ _); (first | k_dflt (refine' m_extend_nil (by k_asm) (by k_asm) (by k_mem) (by k_upd) (by tb_rel) ?_) | k_dflt (refine' m_extend (by k_asm) (by k_asm) (by k_mem) (by kl_some) (by k_upd) (by tb_rel) (by tb_rel) ?_))) | ((show wpAny _ _ (call (Value.builtin "list.pop") _) _ _ _); k_dflt (refine' m_pop (by k_asm) (by k_asm) (by k_upd) (by tb_rel) ?_))); intro hw Fw Nw; (try simp only [List.cons_append, List.nil_append] at Nw); (try k_sweep)))) | ((show wpAny _ _ (setItem (Value.ref _) (Value.int _ _) _) _ _ _); k_here; k_dflt (refine' m_set (by k_asm) (by k_asm) (by k_upd) (by tb_rel) (by tb_rel) (by tb_rel) ?_); intro hw Fw Nw; (try simp only [List.cons_append, List.nil_append] at Nw); (try k_sweep)) | ((show WhlIf _ _ _); (first | (refine WhlIf.yes (decide_eq_true (by tb_rel)) ?_) | (refine WhlIf.no (decide_eq_false (by tb_rel)) ?_))) | ((first | show wpAny _ _ (exec (Stmt.For (PySem.Expr.Name _ _) (PySem.Expr.Name _ _) _ _ _) _) _ _ _ | show wpAny _ _ (exec (Stmt.For (PySem.Expr.Name _ _) (PySem.Expr.Subscript _ _ _) _ _ _) _) _ _ _); k_here; (rename Fr _ _ _ _ => Fw'); (with_unfolding_all refine' For_invVF Fw' (by exact rfl) (by exact rfl) ?_); k_whole) | ((show wpAny _ _ (pyIter (Value.ref _)) _ _ _); k_here; (rename Fr _ _ _ _ => Fw'); (rename News _ _ _ _ => Nw'); (first | (with_unfolding_all refine iter_listUnr (vs := [_]) (by rfl) Fw' Nw' (by k_mem) (by rfl) (by rfl) ?_) | (with_unfolding_all refine iter_listUnr (vs := [_, _]) (by rfl) Fw' Nw' (by k_mem) (by rfl) (by rfl) ?_)); clear Fw'; intro iw lw; (try k_lt lw)) | ((show wpAny _ _ (subscriptTail _ _ (Value.ref _) (Value.int _ _)) _ _ _); k_here; (first | k_dflt (refine' m_getT (by k_asm) (by k_mem) (by decide) (by first | decide | tb_rel) (by rfl) ?_ (by with_unfolding_all rfl)) | k_dflt (refine' m_get (by k_asm) (by k_mem) (by first | decide | tb_rel) (by first | decide | tb_rel) (by first | assumption | rfl) ?_ (by with_unfolding_all rfl) (by intro _; with_unfolding_all rfl)))) | ((show wpAny _ _ (callWith _ (Prod.fst (Value.builtin _, _)) (Prod.snd (_, _ :: _)) (backTo _ (starEach (_ :: _) _)) []) _ _ _); refine callWith_method1 ?_ (by with_unfolding_all rfl) (by with_unfolding_all rfl)) | ((show wpAny _ _ (compareOp _ (Value.str _ _) _) _ _ _); k_here; (first | ((show wpAny _ _ (compareOp CmpOp.Eq (Value.str _ _) (Value.str _ _)) _ _ _); refine m_eqS (by assumption) ?_) | ((show wpAny _ _ (compareOp CmpOp.In (Value.str _ _) (Value.ref _)) _ _ _); (first | k_dflt (refine' m_inT (by k_asm) (by k_mem) (by assumption) ?_) | k_dflt (refine' m_inTop (by k_asm) (by k_asm) (by k_is) (by kde_strs) (by first | assumption | rfl | decide) ?_))))) | ((show wpAny _ _ (binaryOp _ (Value.ref _) _) _ _ _); k_here; (first | ((show wpAny _ _ (binaryOp Operator.Add (Value.ref _) (Value.ref _)) _ _ _); k_dflt (refine' m_add (by k_asm) (by k_asm) (by k_mem) (by k_mem) (by tb_rel) (by tb_rel) ?_)) | ((show wpAny _ _ (binaryOp Operator.Mult (Value.ref _) (Value.int _ _)) _ _ _); k_dflt (refine' m_mul (by k_asm) (by k_asm) (by k_mem) (by rfl) (by omega) ?_))); intro Dw hw Fw Nw lw; (try k_lt lw); (try k_sweep))) | ((with_reducible show UnrEnd _ _ _ _ _ _ _); (rename Fr _ _ _ _ => uF); (rename News _ _ _ _ => uN); k_dflt (apply unr_off uF uN (by k_mem)); (· repeat (first | exact off_nil | (apply off_all; tbn_find) | apply off_eq | (apply off_ne; · k_ne))); refine ⟨by k_mem, ?_⟩) | walk1 | (dsimp only; walk1) | (leave1; (try dsimp only))))
  rename Fr _ _ _ _ => aF
  rename News _ _ _ _ => aN
  rename IsRange _ _ _ _ _ _ _ _ => aR
  rename ∀ p ∈ T, p.1 < _ => hlt
  refine grow_iter (T0 := T) n (fun i Ta S => (∀ p ∈ T, p ∈ Ta) ∧ OOrds Ta S (choS n i)) (by rfl) aR (small_one (by omega) (by omega) (by omega) (by omega)) (by rw [rangeSize_nat]; omega) aF aN (by rfl) (by rfl) (by k_mem) (fun p hp => .tail _ hp) ?hoff ⟨fun p hp => hp, .nil⟩ ?turn ?done
  case hoff => exact fun p hp b hb => (List.mem_singleton.mp hb) ▸ Nat.ne_of_lt (hlt p hp)
  case turn =>
    clear aF aN aR
    rintro i k t S kk Ta Tb h tk u hi hk hTT ho ⟨hR1, hR2⟩ F' N'
    obtain rfl : k = (i : Int) := by omega
    clear hk
    have hSl := hR2.length
    rw [choS_length] at hSl
    (try dsimp only)
    repeat' ((fail_if_success (with_reducible show GrowPost _ _ _ _ _ _ _ _ _ _ _)); (first | (k_unfold; (try dsimp only)) | (k_end; wrow_close) | (with_reducible first | ((show wpAny _ _ (call (Value.builtin _) _) _ _ _); k_here; (first | ((show wpAny _ _ (call (Value.builtin "len") _) _ _ _); (first | k_dflt (refine' m_lenL (by k_asm) (by k_mem) (by first | (show _ = (0 : Int); rfl) | (show _ = (1 : Int); rfl) | (show _ = (2 : Int); rfl) | (show _ = (3 : Int); rfl) | (show _ = (4 : Int); rfl)) (by decide) ?_) | k_dflt (refine' m_len (by k_asm) (by k_mem) (by tb_rel) ?_))) | ((first | ((show wpAny _ _ (call (Value.builtin "list.append") _) _ _ _); k_dflt (refine' m_append (by k_asm) (by k_asm) (by first | assumption | k_upd) (by tb_rel) ?_)) | ((show wpAny _ _ (call (Value.builtin "list.extend") _) _ _ _); (first | k_dflt (refine' m_extend_nil (by k_asm) (by k_asm) (by k_mem) (by k_upd) (by tb_rel) ?_) | k_dflt (refine' m_extend (by k_asm) (by k_asm) (by k_mem) (by kl_some) (by k_upd) (by tb_rel) (by tb_rel) ?_))) | ((show wpAny _ _ (call (Value.builtin "list.pop") _) _ _ _); k_dflt (refine' m_pop (by k_asm) (by k_asm) (by k_upd) (by tb_rel) ?_))); intro hw Fw Nw; (try simp only [List.cons_append, List.nil_append] at Nw); (try k_sweep)))) | ((show wpAny _ _ (setItem (Value.ref _) (Value.int _ _) _) _ _ _); k_here; k_dflt (refine' m_set (by k_asm) (by k_asm) (by k_upd) (by tb_rel) (by tb_rel) (by tb_rel) ?_); intro hw Fw Nw; (try simp only [List.cons_append, List.nil_append] at Nw); (try k_sweep)) | ((show WhlIf _ _ _); (first | (refine WhlIf.yes (decide_eq_true (by tb_rel)) ?_) | (refine WhlIf.no (decide_eq_false (by tb_rel)) ?_))) | ((first | show wpAny _ _ (exec (Stmt.For (PySem.Expr.Name _ _) (PySem.Expr.Name _ _) _ _ _) _) _ _ _ | show wpAny _ _ (exec (Stmt.For (PySem.Expr.Name _ _) (PySem.Expr.Subscript _ _ _) _ _ _) _) _ _ _); k_here; (rename Fr _ _ _ _ => Fw'); (with_unfolding_all refine' For_invVF Fw' (by exact rfl) (by exact rfl) ?_); k_whole) | ((show wpAny _ _ (pyIter (Value.ref _)) _ _ _); k_here; (rename Fr _ _ _ _ => Fw'); (rename News _ _ _ _ => Nw'); (first | (with_unfolding_all refine iter_listUnr (vs := [_]) (by rfl) Fw' Nw' (by k_mem) (by rfl) (by rfl) ?_) | (with_unfolding_all refine iter_listUnr (vs := [_, _]) (by rfl) Fw' Nw' (by k_mem) (by rfl) (by rfl) ?_)); clear Fw'; intro iw lw; (try k_lt lw)) | ((show wpAny _ _ (subscriptTail _ _ (Value.ref _) (Value.int _ _)) _ _ _); k_here; (first | k_dflt (refine' m_getT (by k_asm) (by k_mem) (by decide) (by first | decide | tb_rel) (by rfl) ?_ (by with_unfolding_all rfl)) | k_dflt (refine' m_get (by k_asm) (by k_mem) (by first | decide | tb_rel) (by first | decide | tb_rel) (by first | assumption | rfl) ?_ (by with_unfolding_all rfl) (by intro _; with_unfolding_all rfl)))) | ((show wpAny _ _ (callWith _ (Prod.fst (Value.builtin _, _)) (Prod.snd (_, _ :: _)) (backTo _ (starEach (_ :: _) _)) []) _ _ _); refine callWith_method1 ?_ (by with_unfolding_all rfl) (by with_unfolding_all rfl)) | ((show wpAny _ _ (compareOp _ (Value.str _ _) _) _ _ _); k_here; (first | ((show wpAny _ _ (compareOp CmpOp.Eq (Value.str _ _) (Value.str _ _)) _ _ _); refine m_eqS (by assumption) ?_) | ((show wpAny _ _ (compareOp CmpOp.In (Value.str _ _) (Value.ref _)) _ _ _); (first | k_dflt (refine' m_inT (by k_asm) (by k_mem) (by assumption) ?_) | k_dflt (refine' m_inTop (by k_asm) (by k_asm) (by k_is) (by kde_strs) (by first | assumption | rfl | decide) ?_))))) | ((show wpAny _ _ (binaryOp _ (Value.ref _) _) _ _ _); k_here; (first | ((show wpAny _ _ (binaryOp Operator.Add (Value.ref _) (Value.ref _)) _ _ _); k_dflt (refine' m_add (by k_asm) (by k_asm) (by k_mem) (by k_mem) (by tb_rel) (by tb_rel) ?_)) | ((show wpAny _ _ (binaryOp Operator.Mult (Value.ref _) (Value.int _ _)) _ _ _); k_dflt (refine' m_mul (by k_asm) (by k_asm) (by k_mem) (by rfl) (by omega) ?_))); intro Dw hw Fw Nw lw; (try k_lt lw); (try k_sweep))) | ((with_reducible show UnrEnd _ _ _ _ _ _ _); (rename Fr _ _ _ _ => uF); (rename News _ _ _ _ => uN); k_dflt (apply unr_off uF uN (by k_mem)); (· repeat (first | exact off_nil | (apply off_all; tbn_find) | apply off_eq | (apply off_ne; · k_ne))); refine ⟨by k_mem, ?_⟩) | walk1 | (dsimp only; walk1) | (leave1; (try dsimp only))))
    rename News _ _ _ _ => kN
    rename Fr _ _ _ _ => kF
    refine grow_end [_] (by assumption) ?hX kF (by rfl) (by rfl) kN ?hN
    case hX => repeat (first | exact True.intro | (refine And.intro (by (try dsimp only); omega) ?_))
    case hN =>
      refine ⟨fun p hp => List.mem_append_right _ (hR1 p hp), ?_⟩
      rw [choS_succ]
      refine (hR2.mono fun p hp => List.mem_append_right _ hp).append (.cons (OrdIn.split' (List.mem_append_left _ (by k_mem)) (by omega)) .nil)
  case done =>
    clear aF aN aR
    rintro S kk Ta h tk u ho ⟨hR1, hR2⟩ F' N'
    have hSl := hR2.length
    rw [choS_length] at hSl
    (try dsimp only)
    repeat' ((fail_if_success (with_reducible show wpAny _ _ (pyIter _) _ _ _)); (first | (k_unfold; (try dsimp only)) | (k_end; wrow_close) | (with_reducible first | ((show wpAny _ _ (call (Value.builtin _) _) _ _ _); k_here; (first | ((show wpAny _ _ (call (Value.builtin "len") _) _ _ _); (first | k_dflt (refine' m_lenL (by k_asm) (by k_mem) (by first | (show _ = (0 : Int); rfl) | (show _ = (1 : Int); rfl) | (show _ = (2 : Int); rfl) | (show _ = (3 : Int); rfl) | (show _ = (4 : Int); rfl)) (by decide) ?_) | k_dflt (refine' m_len (by k_asm) (by k_mem) (by tb_rel) ?_))) | ((first | ((show wpAny _ _ (call (Value.builtin "list.append") _) _ _ _); k_dflt (refine' m_append (by k_asm) (by k_asm) (by first | assumption | k_upd) (by tb_rel) ?_)) | ((show wpAny _ _ (call (Value.builtin "list.extend") _) _ _ _); (first | k_dflt (refine' m_extend_nil (by k_asm) (by k_asm) (by k_mem) (by k_upd) (by tb_rel) ?_) | k_dflt (refine' m_extend (by k_asm) (by k_asm) (by k_mem) (by kl_some) (by k_upd) (by tb_rel) (by tb_rel) ?_))) | ((show wpAny _ _ (call (Value.builtin "list.pop") _) _ _ _); k_dflt (refine' m_pop (by k_asm) (by k_asm) (by k_upd) (by tb_rel) ?_))); intro hw Fw Nw; (try simp only [List.cons_append, List.nil_append] at Nw); (try k_sweep)))) | ((show wpAny _ _ (setItem (Value.ref _) (Value.int _ _) _) _ _ _); k_here; k_dflt (refine' m_set (by k_asm) (by k_asm) (by k_upd) (by tb_rel) (by tb_rel) (by tb_rel) ?_); intro hw Fw Nw; (try simp only [List.cons_append, List.nil_append] at Nw); (try k_sweep)) | ((show WhlIf _ _ _); (first | (refine WhlIf.yes (decide_eq_true (by tb_rel)) ?_) | (refine WhlIf.no (decide_eq_false (by tb_rel)) ?_))) | ((first | show wpAny _ _ (exec (Stmt.For (PySem.Expr.Name _ _) (PySem.Expr.Name _ _) _ _ _) _) _ _ _ | show wpAny _ _ (exec (Stmt.For (PySem.Expr.Name _ _) (PySem.Expr.Subscript _ _ _) _ _ _) _) _ _ _); k_here; (rename Fr _ _ _ _ => Fw'); (with_unfolding_all refine' For_invVF Fw' (by exact rfl) (by exact rfl) ?_); k_whole) | ((show wpAny _ _ (pyIter (Value.ref _)) _ _ _); k_here; (rename Fr _ _ _ _ => Fw'); (rename News _ _ _ _ => Nw'); (first | (with_unfolding_all refine iter_listUnr (vs := [_]) (by rfl) Fw' Nw' (by k_mem) (by rfl) (by rfl) ?_) | (with_unfolding_all refine iter_listUnr (vs := [_, _]) (by rfl) Fw' Nw' (by k_mem) (by rfl) (by rfl) ?_)); clear Fw'; intro iw lw; (try k_lt lw)) | ((show wpAny _ _ (subscriptTail _ _ (Value.ref _) (Value.int _ _)) _ _ _); k_here; (first | k_dflt (refine' m_getT (by k_asm) (by k_mem) (by decide) (by first | decide | tb_rel) (by rfl) ?_ (by with_unfolding_all rfl)) | k_dflt (refine' m_get (by k_asm) (by k_mem) (by first | decide | tb_rel) (by first | decide | tb_rel) (by first | assumption | rfl) ?_ (by with_unfolding_all rfl) (by intro _; with_unfolding_all rfl)))) | ((show wpAny _ _ (callWith _ (Prod.fst (Value.builtin _, _)) (Prod.snd (_, _ :: _)) (backTo _ (starEach (_ :: _) _)) []) _ _ _); refine callWith_method1 ?_ (by with_unfolding_all rfl) (by with_unfolding_all rfl)) | ((show wpAny _ _ (compareOp _ (Value.str _ _) _) _ _ _); k_here; (first | ((show wpAny _ _ (compareOp CmpOp.Eq (Value.str _ _) (Value.str _ _)) _ _ _); refine m_eqS (by assumption) ?_) | ((show wpAny _ _ (compareOp CmpOp.In (Value.str _ _) (Value.ref _)) _ _ _); (first | k_dflt (refine' m_inT (by k_asm) (by k_mem) (by assumption) ?_) | k_dflt (refine' m_inTop (by k_asm) (by k_asm) (by k_is) (by kde_strs) (by first | assumption | rfl | decide) ?_))))) | ((show wpAny _ _ (binaryOp _ (Value.ref _) _) _ _ _); k_here; (first | ((show wpAny _ _ (binaryOp Operator.Add (Value.ref _) (Value.ref _)) _ _ _); k_dflt (refine' m_add (by k_asm) (by k_asm) (by k_mem) (by k_mem) (by tb_rel) (by tb_rel) ?_)) | ((show wpAny _ _ (binaryOp Operator.Mult (Value.ref _) (Value.int _ _)) _ _ _); k_dflt (refine' m_mul (by k_asm) (by k_asm) (by k_mem) (by rfl) (by omega) ?_))); intro Dw hw Fw Nw lw; (try k_lt lw); (try k_sweep))) | ((with_reducible show UnrEnd _ _ _ _ _ _ _); (rename Fr _ _ _ _ => uF); (rename News _ _ _ _ => uN); k_dflt (apply unr_off uF uN (by k_mem)); (· repeat (first | exact off_nil | (apply off_all; tbn_find) | apply off_eq | (apply off_ne; · k_ne))); refine ⟨by k_mem, ?_⟩) | walk1 | (dsimp only; walk1) | (leave1; (try dsimp only))))
    rename Fr _ _ _ _ => bF
    rename News _ _ _ _ => bN
    rename IsRange _ _ _ _ _ _ _ _ => bR
    refine grow_iter1 (T1 := Ta) n (fun i Ta S => (∀ p ∈ T, p ∈ Ta) ∧ OOrds Ta S (choS n n ++ ([some (.one "len" 1)] ++ choB n i))) (by rfl) bR (small_one (by omega) (by omega) (by omega) (by omega)) (by rw [rangeSize_nat]; omega) bF bN (by rfl) (by rfl) (by k_mem) (by k_mem) (fun p hp => .tail _ (.tail _ hp)) ?hoff2 ho (fun T0 h1 h2 => ⟨fun p hp => h1 p (hR1 p hp), ?h0⟩) ?turn2 ?done2
    case hoff2 => refine neN ?_; (try dsimp only); omega
    case h0 => exact (hR2.mono h1).append (.cons h2 .nil)
    case turn2 =>
      clear bF bN bR
      rintro i k t S2 kk2 Ta2 Tb h2 tk2 u2 hi hk hTT ho2 ⟨hR3, hR4⟩ F' N'
      obtain rfl : k = (i : Int) := by omega
      clear hk
      have hS2 : S2.length = n + 1 + 3 * i := by
        have e := hR4.length
        rw [List.length_append, List.length_append, choS_length, choB_length] at e
        simpa [Nat.add_assoc] using e
      (try dsimp only)
      repeat' ((fail_if_success (with_reducible show GrowPost _ _ _ _ _ _ _ _ _ _ _)); (first | (k_unfold; (try dsimp only)) | (k_end; wrow_close) | (with_reducible first | ((show wpAny _ _ (call (Value.builtin _) _) _ _ _); k_here; (first | ((show wpAny _ _ (call (Value.builtin "len") _) _ _ _); (first | k_dflt (refine' m_lenL (by k_asm) (by k_mem) (by first | (show _ = (0 : Int); rfl) | (show _ = (1 : Int); rfl) | (show _ = (2 : Int); rfl) | (show _ = (3 : Int); rfl) | (show _ = (4 : Int); rfl)) (by decide) ?_) | k_dflt (refine' m_len (by k_asm) (by k_mem) (by tb_rel) ?_))) | ((first | ((show wpAny _ _ (call (Value.builtin "list.append") _) _ _ _); k_dflt (refine' m_append (by k_asm) (by k_asm) (by first | assumption | k_upd) (by tb_rel) ?_)) | ((show wpAny _ _ (call (Value.builtin "list.extend") _) _ _ _); (first | k_dflt (refine' m_extend_nil (by k_asm) (by k_asm) (by k_mem) (by k_upd) (by tb_rel) ?_) | k_dflt (refine' m_extend (by k_asm) (by k_asm) (by k_mem) (by kl_some) (by k_upd) (by tb_rel) (by tb_rel) ?_))) | ((show wpAny _ _ (call (Value.builtin "list.pop") _) _ _ _); k_dflt (refine' m_pop (by k_asm) (by k_asm) (by k_upd) (by tb_rel) ?_))); intro hw Fw Nw; (try simp only [List.cons_append, List.nil_append] at Nw); (try k_sweep)))) | ((show wpAny _ _ (setItem (Value.ref _) (Value.int _ _) _) _ _ _); k_here; k_dflt (refine' m_set (by k_asm) (by k_asm) (by k_upd) (by tb_rel) (by tb_rel) (by tb_rel) ?_); intro hw Fw Nw; (try simp only [List.cons_append, List.nil_append] at Nw); (try k_sweep)) | ((show WhlIf _ _ _); (first | (refine WhlIf.yes (decide_eq_true (by tb_rel)) ?_) | (refine WhlIf.no (decide_eq_false (by tb_rel)) ?_))) | ((first | show wpAny _ _ (exec (Stmt.For (PySem.Expr.Name _ _) (PySem.Expr.Name _ _) _ _ _) _) _ _ _ | show wpAny _ _ (exec (Stmt.For (PySem.Expr.Name _ _) (PySem.Expr.Subscript _ _ _) _ _ _) _) _ _ _); k_here; (rename Fr _ _ _ _ => Fw'); (with_unfolding_all refine' For_invVF Fw' (by exact rfl) (by exact rfl) ?_); k_whole) | ((show wpAny _ _ (pyIter (Value.ref _)) _ _ _); k_here; (rename Fr _ _ _ _ => Fw'); (rename News _ _ _ _ => Nw'); (first | (with_unfolding_all refine iter_listUnr (vs := [_]) (by rfl) Fw' Nw' (by k_mem) (by rfl) (by rfl) ?_) | (with_unfolding_all refine iter_listUnr (vs := [_, _]) (by rfl) Fw' Nw' (by k_mem) (by rfl) (by rfl) ?_)); clear Fw'; intro iw lw; (try k_lt lw)) | ((show wpAny _ _ (subscriptTail _ _ (Value.ref _) (Value.int _ _)) _ _ _); k_here; (first | k_dflt (refine' m_getT (by k_asm) (by k_mem) (by decide) (by first | decide | tb_rel) (by rfl) ?_ (by with_unfolding_all rfl)) | k_dflt (refine' m_get (by k_asm) (by k_mem) (by first | decide | tb_rel) (by first | decide | tb_rel) (by first | assumption | rfl) ?_ (by with_unfolding_all rfl) (by intro _; with_unfolding_all rfl)))) | ((show wpAny _ _ (callWith _ (Prod.fst (Value.builtin _, _)) (Prod.snd (_, _ :: _)) (backTo _ (starEach (_ :: _) _)) []) _ _ _); refine callWith_method1 ?_ (by with_unfolding_all rfl) (by with_unfolding_all rfl)) | ((show wpAny _ _ (compareOp _ (Value.str _ _) _) _ _ _); k_here; (first | ((show wpAny _ _ (compareOp CmpOp.Eq (Value.str _ _) (Value.str _ _)) _ _ _); refine m_eqS (by assumption) ?_) | ((show wpAny _ _ (compareOp CmpOp.In (Value.str _ _) (Value.ref _)) _ _ _); (first | k_dflt (refine' m_inT (by k_asm) (by k_mem) (by assumption) ?_) | k_dflt (refine' m_inTop (by k_asm) (by k_asm) (by k_is) (by kde_strs) (by first | assumption | rfl | decide) ?_))))) | ((show wpAny _ _ (binaryOp _ (Value.ref _) _) _ _ _); k_here; (first | ((show wpAny _ _ (binaryOp Operator.Add (Value.ref _) (Value.ref _)) _ _ _); k_dflt (refine' m_add (by k_asm) (by k_asm) (by k_mem) (by k_mem) (by tb_rel) (by tb_rel) ?_)) | ((show wpAny _ _ (binaryOp Operator.Mult (Value.ref _) (Value.int _ _)) _ _ _); k_dflt (refine' m_mul (by k_asm) (by k_asm) (by k_mem) (by rfl) (by omega) ?_))); intro Dw hw Fw Nw lw; (try k_lt lw); (try k_sweep))) | ((with_reducible show UnrEnd _ _ _ _ _ _ _); (rename Fr _ _ _ _ => uF); (rename News _ _ _ _ => uN); k_dflt (apply unr_off uF uN (by k_mem)); (· repeat (first | exact off_nil | (apply off_all; tbn_find) | apply off_eq | (apply off_ne; · k_ne))); refine ⟨by k_mem, ?_⟩) | walk1 | (dsimp only; walk1) | (leave1; (try dsimp only))))
      rename News _ _ _ _ => kN
      rename Fr _ _ _ _ => kF
      refine grow_end [_, _, _, _] (by assumption) ?hX kF (by rfl) (by rfl) kN ?hN
      case hX => repeat (first | exact True.intro | (refine And.intro (by (try dsimp only); omega) ?_))
      case hN =>
        refine ⟨fun p hp => List.mem_append_right _ (hR3 p hp), ?_⟩
        show OOrds _ _ (choS n n ++ ([some (.one "len" 1)] ++ choB n (i + 1)))
        have e : choS n n ++ ([some (.one "len" 1)] ++ choB n (i + 1)) = (choS n n ++ ([some (.one "len" 1)] ++ choB n i)) ++ [some (Ord.one "pos" 2), some (Ord.jump (n + 4 + 3 * i)), some (Ord.one "pos" 3)] := by rw [choB_succ]; simp
        rw [e]
        exact OOrds.append (hR4.mono fun p hp => List.mem_append_right _ hp) (.cons (o := some (.one "pos" 2)) (OrdIn.one (List.mem_append_left _ (by k_mem))) (.cons (OrdIn.jump' (List.mem_append_left _ (by k_mem)) (by omega)) (.cons (o := some (.one "pos" 3)) (OrdIn.one (List.mem_append_left _ (by k_mem))) .nil)))
    case done2 =>
      clear bF bN bR
      rintro S2 kk2 Ta2 h2 tk2 u2 ho2 ⟨hR3, hR4⟩ F' N'
      (try dsimp only)
      have hR5 : OOrds Ta2 S2 ((code (choN n) 0).map some) := by rw [← cho_end]; exact hR4
      repeat' ((fail_if_success (with_reducible show Q_ _ _)); (first | (k_unfold; (try dsimp only)) | (k_end; wrow_close) | (with_reducible first | ((show wpAny _ _ (call (Value.builtin _) _) _ _ _); k_here; (first | ((show wpAny _ _ (call (Value.builtin "len") _) _ _ _); (first | k_dflt (refine' m_lenL (by k_asm) (by k_mem) (by first | (show _ = (0 : Int); rfl) | (show _ = (1 : Int); rfl) | (show _ = (2 : Int); rfl) | (show _ = (3 : Int); rfl) | (show _ = (4 : Int); rfl)) (by decide) ?_) | k_dflt (refine' m_len (by k_asm) (by k_mem) (by tb_rel) ?_))) | ((first | ((show wpAny _ _ (call (Value.builtin "list.append") _) _ _ _); k_dflt (refine' m_append (by k_asm) (by k_asm) (by first | assumption | k_upd) (by tb_rel) ?_)) | ((show wpAny _ _ (call (Value.builtin "list.extend") _) _ _ _); (first | k_dflt (refine' m_extend_nil (by k_asm) (by k_asm) (by k_mem) (by k_upd) (by tb_rel) ?_) | k_dflt (refine' m_extend (by k_asm) (by k_asm) (by k_mem) (by kl_some) (by k_upd) (by tb_rel) (by tb_rel) ?_))) | ((show wpAny _ _ (call (Value.builtin "list.pop") _) _ _ _); k_dflt (refine' m_pop (by k_asm) (by k_asm) (by k_upd) (by tb_rel) ?_))); intro hw Fw Nw; (try simp only [List.cons_append, List.nil_append] at Nw); (try k_sweep)))) | ((show wpAny _ _ (setItem (Value.ref _) (Value.int _ _) _) _ _ _); k_here; k_dflt (refine' m_set (by k_asm) (by k_asm) (by k_upd) (by tb_rel) (by tb_rel) (by tb_rel) ?_); intro hw Fw Nw; (try simp only [List.cons_append, List.nil_append] at Nw); (try k_sweep)) | ((show WhlIf _ _ _); (first | (refine WhlIf.yes (decide_eq_true (by tb_rel)) ?_) | (refine WhlIf.no (decide_eq_false (by tb_rel)) ?_))) | ((first | show wpAny _ _ (exec (Stmt.For (PySem.Expr.Name _ _) (PySem.Expr.Name _ _) _ _ _) _) _ _ _ | show wpAny _ _ (exec (Stmt.For (PySem.Expr.Name _ _) (PySem.Expr.Subscript _ _ _) _ _ _) _) _ _ _); k_here; (rename Fr _ _ _ _ => Fw'); (with_unfolding_all refine' For_invVF Fw' (by exact rfl) (by exact rfl) ?_); k_whole) | ((show wpAny _ _ (pyIter (Value.ref _)) _ _ _); k_here; (rename Fr _ _ _ _ => Fw'); (rename News _ _ _ _ => Nw'); (first | (with_unfolding_all refine iter_listUnr (vs := [_]) (by rfl) Fw' Nw' (by k_mem) (by rfl) (by rfl) ?_) | (with_unfolding_all refine iter_listUnr (vs := [_, _]) (by rfl) Fw' Nw' (by k_mem) (by rfl) (by rfl) ?_)); clear Fw'; intro iw lw; (try k_lt lw)) | ((show wpAny _ _ (subscriptTail _ _ (Value.ref _) (Value.int _ _)) _ _ _); k_here; (first | k_dflt (refine' m_getT (by k_asm) (by k_mem) (by decide) (by first | decide | tb_rel) (by rfl) ?_ (by with_unfolding_all rfl)) | k_dflt (refine' m_get (by k_asm) (by k_mem) (by first | decide | tb_rel) (by first | decide | tb_rel) (by first | assumption | rfl) ?_ (by with_unfolding_all rfl) (by intro _; with_unfolding_all rfl)))) | ((show wpAny _ _ (callWith _ (Prod.fst (Value.builtin _, _)) (Prod.snd (_, _ :: _)) (backTo _ (starEach (_ :: _) _)) []) _ _ _); refine callWith_method1 ?_ (by with_unfolding_all rfl) (by with_unfolding_all rfl)) | ((show wpAny _ _ (compareOp _ (Value.str _ _) _) _ _ _); k_here; (first | ((show wpAny _ _ (compareOp CmpOp.Eq (Value.str _ _) (Value.str _ _)) _ _ _); refine m_eqS (by assumption) ?_) | ((show wpAny _ _ (compareOp CmpOp.In (Value.str _ _) (Value.ref _)) _ _ _); (first | k_dflt (refine' m_inT (by k_asm) (by k_mem) (by assumption) ?_) | k_dflt (refine' m_inTop (by k_asm) (by k_asm) (by k_is) (by kde_strs) (by first | assumption | rfl | decide) ?_))))) | ((show wpAny _ _ (binaryOp _ (Value.ref _) _) _ _ _); k_here; (first | ((show wpAny _ _ (binaryOp Operator.Add (Value.ref _) (Value.ref _)) _ _ _); k_dflt (refine' m_add (by k_asm) (by k_asm) (by k_mem) (by k_mem) (by tb_rel) (by tb_rel) ?_)) | ((show wpAny _ _ (binaryOp Operator.Mult (Value.ref _) (Value.int _ _)) _ _ _); k_dflt (refine' m_mul (by k_asm) (by k_asm) (by k_mem) (by rfl) (by omega) ?_))); intro Dw hw Fw Nw lw; (try k_lt lw); (try k_sweep))) | ((with_reducible show UnrEnd _ _ _ _ _ _ _); (rename Fr _ _ _ _ => uF); (rename News _ _ _ _ => uN); k_dflt (apply unr_off uF uN (by k_mem)); (· repeat (first | exact off_nil | (apply off_all; tbn_find) | apply off_eq | (apply off_ne; · k_ne))); refine ⟨by k_mem, ?_⟩) | walk1 | (dsimp only; walk1) | (leave1; (try dsimp only))))
      rename News _ _ _ _ => kN
      rename Fr _ _ _ _ => kF
      exact hret _ _ _ _ kF kN ⟨_, _, _, rfl, fun p hp => .tail _ (hR3 p hp), .head _, hR5.all.mono fun p hp => .tail _ hp⟩
section
variable {prog : Program} {w : World} {A : Around} {E : Value → Shared → Prop} {s : Shared} {h₀ : Heap} {L fe ce : Addr} {m : Str → Option Value} {Q : Value → Shared → Prop} {rest : List (Addr × Obj)} {f : Value} {args : List Value}
/-- what a draw leaves -/
def NextPost (h₀ : Heap) (L : Addr) (m : Str → Option Value) (fe ce : Addr) (rest : List (Addr × Obj)) (t : Int) (s : Shared) (v : Value) (s' : Shared) : Prop :=
  ∃ (r : Int) (tk : Tok) (k : Nat) (t2 : Tok) (h' : Heap) (tk' : Nat), v = .int r tk ∧ 0 ≤ r ∧ r < 4 ∧ s' = { s with heap := h', toks := tk' } ∧ Fr h₀ L h' m ∧ News h₀ L h' ((fe, listOf [Value.ref ce, .int t t2].toArray k) :: rest)
theorem next_cut {t : Int} {t1 : Tok} {k : Nat} (t' : Int) (_F : Fr h₀ L s.heap m) (_N : News h₀ L s.heap ((fe, listOf [Value.ref ce, .int t t1].toArray k) :: rest)) (h : wpAny (model prog w) A (call f args) (NextPost h₀ L m fe ce rest t' s) E s)
    (c : ∀ (r : Int) (tk : Tok) (k' : Nat) (t2 : Tok) (h' : Heap) (tk' : Nat), 0 ≤ r → r < 4 → Fr h₀ L h' m → News h₀ L h' ((fe, listOf [Value.ref ce, .int t' t2].toArray k') :: rest) → Q (.int r tk) { s with heap := h', toks := tk' }) : wpAny (model prog w) A (call f args) Q E s := by
  refine wpAny_mono h (fun v s' p => ?_) fun _ _ e => e
  obtain ⟨r, tk, k', t2, h', tk', rfl, h1, h2, rfl, F, N⟩ := p
  exact c r tk k' t2 h' tk' h1 h2 F N
end
theorem news_four {h₀ h' : Heap} {L : Addr} {a b C : Addr × Obj} {T : List (Addr × Obj)} (N : News h₀ L h' T) (ha : a ∈ T) (hb : b ∈ T) (hC : C ∈ T) : News h₀ L h' (a :: b :: C :: T) := fun q hq => by
  simp only [List.mem_cons] at hq
  rcases hq with rfl | rfl | rfl | h
  · exact N _ ha
  · exact N _ hb
  · exact N _ hC
  · exact N _ h
theorem m_menu {h₀ : Heap} {L D : Addr} {news : List (Addr × Obj)} {prog : Program} {w : World} {A : Around} {E : Value → Shared → Prop} {s : Shared} {x1 x2 x3 x4 : Int} {t1 t2 t3 t4 t : Tok} {n : Nat} {value slice : PySem.Expr} {r : Int} {Q : Value → Shared → Prop}
    (N : News h₀ L s.heap news) (hm : (D, listOf [Value.int x1 t1, .int x2 t2, .int x3 t3, .int x4 t4].toArray n) ∈ news) (h0 : 0 ≤ r) (h4 : r < 4)
    (h : ∀ (d : Int) (td : Tok), (d = x1 ∨ d = x2 ∨ d = x3 ∨ d = x4) → Q (.int d td) s)
    (hs : ∀ k t, subscripted slice false (.ref D) (.int k t) = operate [.ref D, .int k t] (getItem (.ref D) (.int k t)) ) (hg : ∀ r, letTemporaryGo value (.ref D) r = pure ()) :
    wpAny (model prog w) A (subscriptTail value slice (.ref D) (.int r t)) Q E s := by
  have hr : r = 0 ∨ r = 1 ∨ r = 2 ∨ r = 3 := by omega
  rcases hr with rfl | rfl | rfl | rfl
  · exact m_get N hm (by decide) (by decide) rfl (h _ _ (.inl rfl)) (hs _ _) hg
  · exact m_get N hm (by decide) (by decide) rfl (h _ _ (.inr (.inl rfl))) (hs _ _) hg
  · exact m_get N hm (by decide) (by decide) rfl (h _ _ (.inr (.inr (.inl rfl)))) (hs _ _) hg
  · exact m_get N hm (by decide) (by decide) rfl (h _ _ (.inr (.inr (.inr rfl)))) (hs _ _) hg
theorem news_swap {h₀ h : Heap} {L : Addr} {a b : Addr × Obj} {T : List (Addr × Obj)} (N : News h₀ L h (a :: b :: T)) : News h₀ L h (b :: a :: T) := fun q hq => N q (by
  simp only [List.mem_cons] at hq ⊢
  rcases hq with h | h | h
  · exact .inr (.inl h)
  · exact .inl h
  · exact .inr (.inr h))
set_option maxHeartbeats 8000000 in
theorem t1 : PySem.Challenge.rw_rh0224_01.Holds := Mine.hd (by
  w_top off
  k_go0
  all_goals try k_fold
  repeat' ((fail_if_success (with_reducible show wpAny _ _ (call (Value.ref 140) _) _ _ _)); (first | (k_unfold; (try dsimp only)) | (k_end; wrow_close) | (with_reducible first | ((show wpAny _ _ (call (Value.builtin _) _) _ _ _); k_here; (first | ((show wpAny _ _ (call (Value.builtin "len") _) _ _ _); (first | k_dflt (refine' m_lenL (by k_asm) (by k_mem) (by first | (show _ = (0 : Int); rfl) | (show _ = (1 : Int); rfl) | (show _ = (2 : Int); rfl) | (show _ = (3 : Int); rfl) | (show _ = (4 : Int); rfl)) (by decide) ?_) | k_dflt (refine' m_len (by k_asm) (by k_mem) (by tb_rel) ?_))) | ((first | ((show wpAny _ _ (call (Value.builtin "list.append") _) _ _ _); k_dflt (refine' m_append (by k_asm) (by k_asm) (by first | assumption | k_upd) (by tb_rel) ?_)) | ((show wpAny _ _ (call (Value.builtin "list.extend") _) _ _ _); (first | k_dflt (refine' m_extend_nil (by k_asm) (by k_asm) (by k_mem) (by k_upd) (by tb_rel) ?_) | k_dflt (refine' m_extend (by k_asm) (by k_asm) (by k_mem) (by kl_some) (by k_upd) (by tb_rel) (by tb_rel) ?_))) | ((show wpAny _ _ (call (Value.builtin "list.pop") _) _ _ _); k_dflt (refine' m_pop (by k_asm) (by k_asm) (by k_upd) (by tb_rel) ?_))); intro hw Fw Nw; (try simp only [List.cons_append, List.nil_append] at Nw); (try k_sweep)))) | ((show wpAny _ _ (setItem (Value.ref _) (Value.int _ _) _) _ _ _); k_here; k_dflt (refine' m_set (by k_asm) (by k_asm) (by k_upd) (by tb_rel) (by tb_rel) (by tb_rel) ?_); intro hw Fw Nw; (try simp only [List.cons_append, List.nil_append] at Nw); (try k_sweep)) | ((show WhlIf _ _ _); (first | (refine WhlIf.yes (decide_eq_true (by tb_rel)) ?_) | (refine WhlIf.no (decide_eq_false (by tb_rel)) ?_))) | ((first | show wpAny _ _ (exec (Stmt.For (PySem.Expr.Name _ _) (PySem.Expr.Name _ _) _ _ _) _) _ _ _ | show wpAny _ _ (exec (Stmt.For (PySem.Expr.Name _ _) (PySem.Expr.Subscript _ _ _) _ _ _) _) _ _ _); k_here; (rename Fr _ _ _ _ => Fw'); (with_unfolding_all refine' For_invVF Fw' (by exact rfl) (by exact rfl) ?_); k_whole) | ((show wpAny _ _ (pyIter (Value.ref _)) _ _ _); k_here; (rename Fr _ _ _ _ => Fw'); (rename News _ _ _ _ => Nw'); (first | (with_unfolding_all refine iter_listUnr (vs := [_]) (by rfl) Fw' Nw' (by k_mem) (by rfl) (by rfl) ?_) | (with_unfolding_all refine iter_listUnr (vs := [_, _]) (by rfl) Fw' Nw' (by k_mem) (by rfl) (by rfl) ?_)); clear Fw'; intro iw lw; (try k_lt lw)) | ((show wpAny _ _ (subscriptTail _ _ (Value.ref _) (Value.int _ _)) _ _ _); k_here; (first | k_dflt (refine' m_getT (by k_asm) (by k_mem) (by decide) (by first | decide | tb_rel) (by rfl) ?_ (by with_unfolding_all rfl)) | k_dflt (refine' m_get (by k_asm) (by k_mem) (by first | decide | tb_rel) (by first | decide | tb_rel) (by first | assumption | rfl) ?_ (by with_unfolding_all rfl) (by intro _; with_unfolding_all rfl)))) | ((show wpAny _ _ (callWith _ (Prod.fst (Value.builtin _, _)) (Prod.snd (_, _ :: _)) (backTo _ (starEach (_ :: _) _)) []) _ _ _); refine callWith_method1 ?_ (by with_unfolding_all rfl) (by with_unfolding_all rfl)) | ((show wpAny _ _ (compareOp _ (Value.str _ _) _) _ _ _); k_here; (first | ((show wpAny _ _ (compareOp CmpOp.Eq (Value.str _ _) (Value.str _ _)) _ _ _); refine m_eqS (by assumption) ?_) | ((show wpAny _ _ (compareOp CmpOp.In (Value.str _ _) (Value.ref _)) _ _ _); (first | k_dflt (refine' m_inT (by k_asm) (by k_mem) (by assumption) ?_) | k_dflt (refine' m_inTop (by k_asm) (by k_asm) (by k_is) (by kde_strs) (by first | assumption | rfl | decide) ?_))))) | ((show wpAny _ _ (binaryOp _ (Value.ref _) _) _ _ _); k_here; (first | ((show wpAny _ _ (binaryOp Operator.Add (Value.ref _) (Value.ref _)) _ _ _); k_dflt (refine' m_add (by k_asm) (by k_asm) (by k_mem) (by k_mem) (by tb_rel) (by tb_rel) ?_)) | ((show wpAny _ _ (binaryOp Operator.Mult (Value.ref _) (Value.int _ _)) _ _ _); k_dflt (refine' m_mul (by k_asm) (by k_asm) (by k_mem) (by rfl) (by omega) ?_))); intro Dw hw Fw Nw lw; (try k_lt lw); (try k_sweep))) | ((with_reducible show UnrEnd _ _ _ _ _ _ _); (rename Fr _ _ _ _ => uF); (rename News _ _ _ _ => uN); k_dflt (apply unr_off uF uN (by k_mem)); (· repeat (first | exact off_nil | (apply off_all; tbn_find) | apply off_eq | (apply off_ne; · k_ne))); refine ⟨by k_mem, ?_⟩) | walk1 | (dsimp only; walk1) | (leave1; (try dsimp only))))
  rename Fr _ _ _ _ => lF
  rename News _ _ _ _ => lN
  with_unfolding_all refine next_cut 1 lF lN ?h ?c
  case h =>
    repeat' ((fail_if_success (with_reducible show NextPost _ _ _ _ _ _ _ _ _ _)); (first | (k_unfold; (try dsimp only)) | (k_end; wrow_close) | (with_reducible first | ((show wpAny _ _ (call (Value.builtin _) _) _ _ _); k_here; (first | ((show wpAny _ _ (call (Value.builtin "len") _) _ _ _); (first | k_dflt (refine' m_lenL (by k_asm) (by k_mem) (by first | (show _ = (0 : Int); rfl) | (show _ = (1 : Int); rfl) | (show _ = (2 : Int); rfl) | (show _ = (3 : Int); rfl) | (show _ = (4 : Int); rfl)) (by decide) ?_) | k_dflt (refine' m_len (by k_asm) (by k_mem) (by tb_rel) ?_))) | ((first | ((show wpAny _ _ (call (Value.builtin "list.append") _) _ _ _); k_dflt (refine' m_append (by k_asm) (by k_asm) (by first | assumption | k_upd) (by tb_rel) ?_)) | ((show wpAny _ _ (call (Value.builtin "list.extend") _) _ _ _); (first | k_dflt (refine' m_extend_nil (by k_asm) (by k_asm) (by k_mem) (by k_upd) (by tb_rel) ?_) | k_dflt (refine' m_extend (by k_asm) (by k_asm) (by k_mem) (by kl_some) (by k_upd) (by tb_rel) (by tb_rel) ?_))) | ((show wpAny _ _ (call (Value.builtin "list.pop") _) _ _ _); k_dflt (refine' m_pop (by k_asm) (by k_asm) (by k_upd) (by tb_rel) ?_))); intro hw Fw Nw; (try simp only [List.cons_append, List.nil_append] at Nw); (try k_sweep)))) | ((show wpAny _ _ (setItem (Value.ref _) (Value.int _ _) _) _ _ _); k_here; k_dflt (refine' m_set (by k_asm) (by k_asm) (by k_upd) (by tb_rel) (by tb_rel) (by tb_rel) ?_); intro hw Fw Nw; (try simp only [List.cons_append, List.nil_append] at Nw); (try k_sweep)) | ((show WhlIf _ _ _); (first | (refine WhlIf.yes (decide_eq_true (by tb_rel)) ?_) | (refine WhlIf.no (decide_eq_false (by tb_rel)) ?_))) | ((first | show wpAny _ _ (exec (Stmt.For (PySem.Expr.Name _ _) (PySem.Expr.Name _ _) _ _ _) _) _ _ _ | show wpAny _ _ (exec (Stmt.For (PySem.Expr.Name _ _) (PySem.Expr.Subscript _ _ _) _ _ _) _) _ _ _); k_here; (rename Fr _ _ _ _ => Fw'); (with_unfolding_all refine' For_invVF Fw' (by exact rfl) (by exact rfl) ?_); k_whole) | ((show wpAny _ _ (pyIter (Value.ref _)) _ _ _); k_here; (rename Fr _ _ _ _ => Fw'); (rename News _ _ _ _ => Nw'); (first | (with_unfolding_all refine iter_listUnr (vs := [_]) (by rfl) Fw' Nw' (by k_mem) (by rfl) (by rfl) ?_) | (with_unfolding_all refine iter_listUnr (vs := [_, _]) (by rfl) Fw' Nw' (by k_mem) (by rfl) (by rfl) ?_)); clear Fw'; intro iw lw; (try k_lt lw)) | ((show wpAny _ _ (subscriptTail _ _ (Value.ref _) (Value.int _ _)) _ _ _); k_here; (first | k_dflt (refine' m_getT (by k_asm) (by k_mem) (by decide) (by first | decide | tb_rel) (by rfl) ?_ (by with_unfolding_all rfl)) | k_dflt (refine' m_get (by k_asm) (by k_mem) (by first | decide | tb_rel) (by first | decide | tb_rel) (by first | assumption | rfl) ?_ (by with_unfolding_all rfl) (by intro _; with_unfolding_all rfl)))) | ((show wpAny _ _ (callWith _ (Prod.fst (Value.builtin _, _)) (Prod.snd (_, _ :: _)) (backTo _ (starEach (_ :: _) _)) []) _ _ _); refine callWith_method1 ?_ (by with_unfolding_all rfl) (by with_unfolding_all rfl)) | ((show wpAny _ _ (compareOp _ (Value.str _ _) _) _ _ _); k_here; (first | ((show wpAny _ _ (compareOp CmpOp.Eq (Value.str _ _) (Value.str _ _)) _ _ _); refine m_eqS (by assumption) ?_) | ((show wpAny _ _ (compareOp CmpOp.In (Value.str _ _) (Value.ref _)) _ _ _); (first | k_dflt (refine' m_inT (by k_asm) (by k_mem) (by assumption) ?_) | k_dflt (refine' m_inTop (by k_asm) (by k_asm) (by k_is) (by kde_strs) (by first | assumption | rfl | decide) ?_))))) | ((show wpAny _ _ (binaryOp _ (Value.ref _) _) _ _ _); k_here; (first | ((show wpAny _ _ (binaryOp Operator.Add (Value.ref _) (Value.ref _)) _ _ _); k_dflt (refine' m_add (by k_asm) (by k_asm) (by k_mem) (by k_mem) (by tb_rel) (by tb_rel) ?_)) | ((show wpAny _ _ (binaryOp Operator.Mult (Value.ref _) (Value.int _ _)) _ _ _); k_dflt (refine' m_mul (by k_asm) (by k_asm) (by k_mem) (by rfl) (by omega) ?_))); intro Dw hw Fw Nw lw; (try k_lt lw); (try k_sweep))) | ((with_reducible show UnrEnd _ _ _ _ _ _ _); (rename Fr _ _ _ _ => uF); (rename News _ _ _ _ => uN); k_dflt (apply unr_off uF uN (by k_mem)); (· repeat (first | exact off_nil | (apply off_all; tbn_find) | apply off_eq | (apply off_ne; · k_ne))); refine ⟨by k_mem, ?_⟩) | walk1 | (dsimp only; walk1) | (leave1; (try dsimp only))))
    all_goals
      rename Fr _ _ _ _ => kF
      rename News _ _ _ _ => kN
      exact ⟨_, _, _, _, _, _, rfl, Int.fmod_nonneg_of_pos _ (by decide), Int.fmod_lt_of_pos _ (by decide), rfl, kF, kN⟩
  case c =>
    clear lF lN
    intro form tkf kf tf hf tkf' f0 f4 F2 N2
    (try dsimp only)
    repeat' ((fail_if_success (with_reducible show wpAny _ _ (call (Value.ref 140) _) _ _ _)); (first | (k_unfold; (try dsimp only)) | (k_end; wrow_close) | (with_reducible first | ((show wpAny _ _ (call (Value.builtin _) _) _ _ _); k_here; (first | ((show wpAny _ _ (call (Value.builtin "len") _) _ _ _); (first | k_dflt (refine' m_lenL (by k_asm) (by k_mem) (by first | (show _ = (0 : Int); rfl) | (show _ = (1 : Int); rfl) | (show _ = (2 : Int); rfl) | (show _ = (3 : Int); rfl) | (show _ = (4 : Int); rfl)) (by decide) ?_) | k_dflt (refine' m_len (by k_asm) (by k_mem) (by tb_rel) ?_))) | ((first | ((show wpAny _ _ (call (Value.builtin "list.append") _) _ _ _); k_dflt (refine' m_append (by k_asm) (by k_asm) (by first | assumption | k_upd) (by tb_rel) ?_)) | ((show wpAny _ _ (call (Value.builtin "list.extend") _) _ _ _); (first | k_dflt (refine' m_extend_nil (by k_asm) (by k_asm) (by k_mem) (by k_upd) (by tb_rel) ?_) | k_dflt (refine' m_extend (by k_asm) (by k_asm) (by k_mem) (by kl_some) (by k_upd) (by tb_rel) (by tb_rel) ?_))) | ((show wpAny _ _ (call (Value.builtin "list.pop") _) _ _ _); k_dflt (refine' m_pop (by k_asm) (by k_asm) (by k_upd) (by tb_rel) ?_))); intro hw Fw Nw; (try simp only [List.cons_append, List.nil_append] at Nw); (try k_sweep)))) | ((show wpAny _ _ (setItem (Value.ref _) (Value.int _ _) _) _ _ _); k_here; k_dflt (refine' m_set (by k_asm) (by k_asm) (by k_upd) (by tb_rel) (by tb_rel) (by tb_rel) ?_); intro hw Fw Nw; (try simp only [List.cons_append, List.nil_append] at Nw); (try k_sweep)) | ((show WhlIf _ _ _); (first | (refine WhlIf.yes (decide_eq_true (by tb_rel)) ?_) | (refine WhlIf.no (decide_eq_false (by tb_rel)) ?_))) | ((first | show wpAny _ _ (exec (Stmt.For (PySem.Expr.Name _ _) (PySem.Expr.Name _ _) _ _ _) _) _ _ _ | show wpAny _ _ (exec (Stmt.For (PySem.Expr.Name _ _) (PySem.Expr.Subscript _ _ _) _ _ _) _) _ _ _); k_here; (rename Fr _ _ _ _ => Fw'); (with_unfolding_all refine' For_invVF Fw' (by exact rfl) (by exact rfl) ?_); k_whole) | ((show wpAny _ _ (pyIter (Value.ref _)) _ _ _); k_here; (rename Fr _ _ _ _ => Fw'); (rename News _ _ _ _ => Nw'); (first | (with_unfolding_all refine iter_listUnr (vs := [_]) (by rfl) Fw' Nw' (by k_mem) (by rfl) (by rfl) ?_) | (with_unfolding_all refine iter_listUnr (vs := [_, _]) (by rfl) Fw' Nw' (by k_mem) (by rfl) (by rfl) ?_)); clear Fw'; intro iw lw; (try k_lt lw)) | ((show wpAny _ _ (subscriptTail _ _ (Value.ref _) (Value.int _ _)) _ _ _); k_here; (first | k_dflt (refine' m_getT (by k_asm) (by k_mem) (by decide) (by first | decide | tb_rel) (by rfl) ?_ (by with_unfolding_all rfl)) | k_dflt (refine' m_get (by k_asm) (by k_mem) (by first | decide | tb_rel) (by first | decide | tb_rel) (by first | assumption | rfl) ?_ (by with_unfolding_all rfl) (by intro _; with_unfolding_all rfl)))) | ((show wpAny _ _ (callWith _ (Prod.fst (Value.builtin _, _)) (Prod.snd (_, _ :: _)) (backTo _ (starEach (_ :: _) _)) []) _ _ _); refine callWith_method1 ?_ (by with_unfolding_all rfl) (by with_unfolding_all rfl)) | ((show wpAny _ _ (compareOp _ (Value.str _ _) _) _ _ _); k_here; (first | ((show wpAny _ _ (compareOp CmpOp.Eq (Value.str _ _) (Value.str _ _)) _ _ _); refine m_eqS (by assumption) ?_) | ((show wpAny _ _ (compareOp CmpOp.In (Value.str _ _) (Value.ref _)) _ _ _); (first | k_dflt (refine' m_inT (by k_asm) (by k_mem) (by assumption) ?_) | k_dflt (refine' m_inTop (by k_asm) (by k_asm) (by k_is) (by kde_strs) (by first | assumption | rfl | decide) ?_))))) | ((show wpAny _ _ (binaryOp _ (Value.ref _) _) _ _ _); k_here; (first | ((show wpAny _ _ (binaryOp Operator.Add (Value.ref _) (Value.ref _)) _ _ _); k_dflt (refine' m_add (by k_asm) (by k_asm) (by k_mem) (by k_mem) (by tb_rel) (by tb_rel) ?_)) | ((show wpAny _ _ (binaryOp Operator.Mult (Value.ref _) (Value.int _ _)) _ _ _); k_dflt (refine' m_mul (by k_asm) (by k_asm) (by k_mem) (by rfl) (by omega) ?_))); intro Dw hw Fw Nw lw; (try k_lt lw); (try k_sweep))) | ((with_reducible show UnrEnd _ _ _ _ _ _ _); (rename Fr _ _ _ _ => uF); (rename News _ _ _ _ => uN); k_dflt (apply unr_off uF uN (by k_mem)); (· repeat (first | exact off_nil | (apply off_all; tbn_find) | apply off_eq | (apply off_ne; · k_ne))); refine ⟨by k_mem, ?_⟩) | walk1 | (dsimp only; walk1) | (leave1; (try dsimp only))))
    rename Fr _ _ _ _ => lF
    rename News _ _ _ _ => lN
    replace lN := news_swap lN
    with_unfolding_all refine next_cut 2 lF lN ?h ?c
    case h =>
      repeat' ((fail_if_success (with_reducible show NextPost _ _ _ _ _ _ _ _ _ _)); (first | (k_unfold; (try dsimp only)) | (k_end; wrow_close) | (with_reducible first | ((show wpAny _ _ (call (Value.builtin _) _) _ _ _); k_here; (first | ((show wpAny _ _ (call (Value.builtin "len") _) _ _ _); (first | k_dflt (refine' m_lenL (by k_asm) (by k_mem) (by first | (show _ = (0 : Int); rfl) | (show _ = (1 : Int); rfl) | (show _ = (2 : Int); rfl) | (show _ = (3 : Int); rfl) | (show _ = (4 : Int); rfl)) (by decide) ?_) | k_dflt (refine' m_len (by k_asm) (by k_mem) (by tb_rel) ?_))) | ((first | ((show wpAny _ _ (call (Value.builtin "list.append") _) _ _ _); k_dflt (refine' m_append (by k_asm) (by k_asm) (by first | assumption | k_upd) (by tb_rel) ?_)) | ((show wpAny _ _ (call (Value.builtin "list.extend") _) _ _ _); (first | k_dflt (refine' m_extend_nil (by k_asm) (by k_asm) (by k_mem) (by k_upd) (by tb_rel) ?_) | k_dflt (refine' m_extend (by k_asm) (by k_asm) (by k_mem) (by kl_some) (by k_upd) (by tb_rel) (by tb_rel) ?_))) | ((show wpAny _ _ (call (Value.builtin "list.pop") _) _ _ _); k_dflt (refine' m_pop (by k_asm) (by k_asm) (by k_upd) (by tb_rel) ?_))); intro hw Fw Nw; (try simp only [List.cons_append, List.nil_append] at Nw); (try k_sweep)))) | ((show wpAny _ _ (setItem (Value.ref _) (Value.int _ _) _) _ _ _); k_here; k_dflt (refine' m_set (by k_asm) (by k_asm) (by k_upd) (by tb_rel) (by tb_rel) (by tb_rel) ?_); intro hw Fw Nw; (try simp only [List.cons_append, List.nil_append] at Nw); (try k_sweep)) | ((show WhlIf _ _ _); (first | (refine WhlIf.yes (decide_eq_true (by tb_rel)) ?_) | (refine WhlIf.no (decide_eq_false (by tb_rel)) ?_))) | ((first | show wpAny _ _ (exec (Stmt.For (PySem.Expr.Name _ _) (PySem.Expr.Name _ _) _ _ _) _) _ _ _ | show wpAny _ _ (exec (Stmt.For (PySem.Expr.Name _ _) (PySem.Expr.Subscript _ _ _) _ _ _) _) _ _ _); k_here; (rename Fr _ _ _ _ => Fw'); (with_unfolding_all refine' For_invVF Fw' (by exact rfl) (by exact rfl) ?_); k_whole) | ((show wpAny _ _ (pyIter (Value.ref _)) _ _ _); k_here; (rename Fr _ _ _ _ => Fw'); (rename News _ _ _ _ => Nw'); (first | (with_unfolding_all refine iter_listUnr (vs := [_]) (by rfl) Fw' Nw' (by k_mem) (by rfl) (by rfl) ?_) | (with_unfolding_all refine iter_listUnr (vs := [_, _]) (by rfl) Fw' Nw' (by k_mem) (by rfl) (by rfl) ?_)); clear Fw'; intro iw lw; (try k_lt lw)) | ((show wpAny _ _ (subscriptTail _ _ (Value.ref _) (Value.int _ _)) _ _ _); k_here; (first | k_dflt (refine' m_getT (by k_asm) (by k_mem) (by decide) (by first | decide | tb_rel) (by rfl) ?_ (by with_unfolding_all rfl)) | k_dflt (refine' m_get (by k_asm) (by k_mem) (by first | decide | tb_rel) (by first | decide | tb_rel) (by first | assumption | rfl) ?_ (by with_unfolding_all rfl) (by intro _; with_unfolding_all rfl)))) | ((show wpAny _ _ (callWith _ (Prod.fst (Value.builtin _, _)) (Prod.snd (_, _ :: _)) (backTo _ (starEach (_ :: _) _)) []) _ _ _); refine callWith_method1 ?_ (by with_unfolding_all rfl) (by with_unfolding_all rfl)) | ((show wpAny _ _ (compareOp _ (Value.str _ _) _) _ _ _); k_here; (first | ((show wpAny _ _ (compareOp CmpOp.Eq (Value.str _ _) (Value.str _ _)) _ _ _); refine m_eqS (by assumption) ?_) | ((show wpAny _ _ (compareOp CmpOp.In (Value.str _ _) (Value.ref _)) _ _ _); (first | k_dflt (refine' m_inT (by k_asm) (by k_mem) (by assumption) ?_) | k_dflt (refine' m_inTop (by k_asm) (by k_asm) (by k_is) (by kde_strs) (by first | assumption | rfl | decide) ?_))))) | ((show wpAny _ _ (binaryOp _ (Value.ref _) _) _ _ _); k_here; (first | ((show wpAny _ _ (binaryOp Operator.Add (Value.ref _) (Value.ref _)) _ _ _); k_dflt (refine' m_add (by k_asm) (by k_asm) (by k_mem) (by k_mem) (by tb_rel) (by tb_rel) ?_)) | ((show wpAny _ _ (binaryOp Operator.Mult (Value.ref _) (Value.int _ _)) _ _ _); k_dflt (refine' m_mul (by k_asm) (by k_asm) (by k_mem) (by rfl) (by omega) ?_))); intro Dw hw Fw Nw lw; (try k_lt lw); (try k_sweep))) | ((with_reducible show UnrEnd _ _ _ _ _ _ _); (rename Fr _ _ _ _ => uF); (rename News _ _ _ _ => uN); k_dflt (apply unr_off uF uN (by k_mem)); (· repeat (first | exact off_nil | (apply off_all; tbn_find) | apply off_eq | (apply off_ne; · k_ne))); refine ⟨by k_mem, ?_⟩) | walk1 | (dsimp only; walk1) | (leave1; (try dsimp only))))
      all_goals
        rename Fr _ _ _ _ => kF
        rename News _ _ _ _ => kN
        exact ⟨_, _, _, _, _, _, rfl, Int.fmod_nonneg_of_pos _ (by decide), Int.fmod_lt_of_pos _ (by decide), rfl, kF, kN⟩
    case c =>
      clear lF lN
      intro r1 tkr kr tr hr tkr' r0 r4 F3 N3
      (try dsimp only)
      refine kba_turn (value' := PySem.Expr.Name (PySem.Str.ofString "_") ⟨0, 0, 0, 0⟩) (fun _ => rfl) ?_
      refine m_menu N3 (by k_mem) r0 r4 ?_ (by intro _ _; with_unfolding_all rfl) (by intro _; with_unfolding_all rfl)
      intro deep td hdeep
      (try dsimp only)
      repeat' ((fail_if_success (with_reducible show wpAny _ _ (execs (Stmt.For _ _ _ _ _ :: _) _) _ _ _)); (first | (k_unfold; (try dsimp only)) | (k_end; wrow_close) | (with_reducible first | ((show wpAny _ _ (call (Value.builtin _) _) _ _ _); k_here; (first | ((show wpAny _ _ (call (Value.builtin "len") _) _ _ _); (first | k_dflt (refine' m_lenL (by k_asm) (by k_mem) (by first | (show _ = (0 : Int); rfl) | (show _ = (1 : Int); rfl) | (show _ = (2 : Int); rfl) | (show _ = (3 : Int); rfl) | (show _ = (4 : Int); rfl)) (by decide) ?_) | k_dflt (refine' m_len (by k_asm) (by k_mem) (by tb_rel) ?_))) | ((first | ((show wpAny _ _ (call (Value.builtin "list.append") _) _ _ _); k_dflt (refine' m_append (by k_asm) (by k_asm) (by first | assumption | k_upd) (by tb_rel) ?_)) | ((show wpAny _ _ (call (Value.builtin "list.extend") _) _ _ _); (first | k_dflt (refine' m_extend_nil (by k_asm) (by k_asm) (by k_mem) (by k_upd) (by tb_rel) ?_) | k_dflt (refine' m_extend (by k_asm) (by k_asm) (by k_mem) (by kl_some) (by k_upd) (by tb_rel) (by tb_rel) ?_))) | ((show wpAny _ _ (call (Value.builtin "list.pop") _) _ _ _); k_dflt (refine' m_pop (by k_asm) (by k_asm) (by k_upd) (by tb_rel) ?_))); intro hw Fw Nw; (try simp only [List.cons_append, List.nil_append] at Nw); (try k_sweep)))) | ((show wpAny _ _ (setItem (Value.ref _) (Value.int _ _) _) _ _ _); k_here; k_dflt (refine' m_set (by k_asm) (by k_asm) (by k_upd) (by tb_rel) (by tb_rel) (by tb_rel) ?_); intro hw Fw Nw; (try simp only [List.cons_append, List.nil_append] at Nw); (try k_sweep)) | ((show WhlIf _ _ _); (first | (refine WhlIf.yes (decide_eq_true (by tb_rel)) ?_) | (refine WhlIf.no (decide_eq_false (by tb_rel)) ?_))) | ((first | show wpAny _ _ (exec (Stmt.For (PySem.Expr.Name _ _) (PySem.Expr.Name _ _) _ _ _) _) _ _ _ | show wpAny _ _ (exec (Stmt.For (PySem.Expr.Name _ _) (PySem.Expr.Subscript _ _ _) _ _ _) _) _ _ _); k_here; (rename Fr _ _ _ _ => Fw'); (with_unfolding_all refine' For_invVF Fw' (by exact rfl) (by exact rfl) ?_); k_whole) | ((show wpAny _ _ (pyIter (Value.ref _)) _ _ _); k_here; (rename Fr _ _ _ _ => Fw'); (rename News _ _ _ _ => Nw'); (first | (with_unfolding_all refine iter_listUnr (vs := [_]) (by rfl) Fw' Nw' (by k_mem) (by rfl) (by rfl) ?_) | (with_unfolding_all refine iter_listUnr (vs := [_, _]) (by rfl) Fw' Nw' (by k_mem) (by rfl) (by rfl) ?_)); clear Fw'; intro iw lw; (try k_lt lw)) | ((show wpAny _ _ (subscriptTail _ _ (Value.ref _) (Value.int _ _)) _ _ _); k_here; (first | k_dflt (refine' m_getT (by k_asm) (by k_mem) (by decide) (by first | decide | tb_rel) (by rfl) ?_ (by with_unfolding_all rfl)) | k_dflt (refine' m_get (by k_asm) (by k_mem) (by first | decide | tb_rel) (by first | decide | tb_rel) (by first | assumption | rfl) ?_ (by with_unfolding_all rfl) (by intro _; with_unfolding_all rfl)))) | ((show wpAny _ _ (callWith _ (Prod.fst (Value.builtin _, _)) (Prod.snd (_, _ :: _)) (backTo _ (starEach (_ :: _) _)) []) _ _ _); refine callWith_method1 ?_ (by with_unfolding_all rfl) (by with_unfolding_all rfl)) | ((show wpAny _ _ (compareOp _ (Value.str _ _) _) _ _ _); k_here; (first | ((show wpAny _ _ (compareOp CmpOp.Eq (Value.str _ _) (Value.str _ _)) _ _ _); refine m_eqS (by assumption) ?_) | ((show wpAny _ _ (compareOp CmpOp.In (Value.str _ _) (Value.ref _)) _ _ _); (first | k_dflt (refine' m_inT (by k_asm) (by k_mem) (by assumption) ?_) | k_dflt (refine' m_inTop (by k_asm) (by k_asm) (by k_is) (by kde_strs) (by first | assumption | rfl | decide) ?_))))) | ((show wpAny _ _ (binaryOp _ (Value.ref _) _) _ _ _); k_here; (first | ((show wpAny _ _ (binaryOp Operator.Add (Value.ref _) (Value.ref _)) _ _ _); k_dflt (refine' m_add (by k_asm) (by k_asm) (by k_mem) (by k_mem) (by tb_rel) (by tb_rel) ?_)) | ((show wpAny _ _ (binaryOp Operator.Mult (Value.ref _) (Value.int _ _)) _ _ _); k_dflt (refine' m_mul (by k_asm) (by k_asm) (by k_mem) (by rfl) (by omega) ?_))); intro Dw hw Fw Nw lw; (try k_lt lw); (try k_sweep))) | ((with_reducible show UnrEnd _ _ _ _ _ _ _); (rename Fr _ _ _ _ => uF); (rename News _ _ _ _ => uN); k_dflt (apply unr_off uF uN (by k_mem)); (· repeat (first | exact off_nil | (apply off_all; tbn_find) | apply off_eq | (apply off_ne; · k_ne))); refine ⟨by k_mem, ?_⟩) | walk1 | (dsimp only; walk1) | (leave1; (try dsimp only))))
      rename Fr _ _ _ _ => eF
      with_unfolding_all refine cut_end eF ?hend fun hend => ?_
      case hend =>
        clear eF
        intro h' tk' m' F'
        repeat' (first | (k_unfold; (try dsimp only)) | (k_end; wrow_close) | (with_reducible first | ((show wpAny _ _ (call (Value.builtin _) _) _ _ _); k_here; (first | ((show wpAny _ _ (call (Value.builtin "len") _) _ _ _); (first | k_dflt (refine' m_lenL (by k_asm) (by k_mem) (by first | (show _ = (0 : Int); rfl) | (show _ = (1 : Int); rfl) | (show _ = (2 : Int); rfl) | (show _ = (3 : Int); rfl) | (show _ = (4 : Int); rfl)) (by decide) ?_) | k_dflt (refine' m_len (by k_asm) (by k_mem) (by tb_rel) ?_))) | ((first | ((show wpAny _ _ (call (Value.builtin "list.append") _) _ _ _); k_dflt (refine' m_append (by k_asm) (by k_asm) (by first | assumption | k_upd) (by tb_rel) ?_)) | ((show wpAny _ _ (call (Value.builtin "list.extend") _) _ _ _); (first | k_dflt (refine' m_extend_nil (by k_asm) (by k_asm) (by k_mem) (by k_upd) (by tb_rel) ?_) | k_dflt (refine' m_extend (by k_asm) (by k_asm) (by k_mem) (by kl_some) (by k_upd) (by tb_rel) (by tb_rel) ?_))) | ((show wpAny _ _ (call (Value.builtin "list.pop") _) _ _ _); k_dflt (refine' m_pop (by k_asm) (by k_asm) (by k_upd) (by tb_rel) ?_))); intro hw Fw Nw; (try simp only [List.cons_append, List.nil_append] at Nw); (try k_sweep)))) | ((show wpAny _ _ (setItem (Value.ref _) (Value.int _ _) _) _ _ _); k_here; k_dflt (refine' m_set (by k_asm) (by k_asm) (by k_upd) (by tb_rel) (by tb_rel) (by tb_rel) ?_); intro hw Fw Nw; (try simp only [List.cons_append, List.nil_append] at Nw); (try k_sweep)) | ((show WhlIf _ _ _); (first | (refine WhlIf.yes (decide_eq_true (by tb_rel)) ?_) | (refine WhlIf.no (decide_eq_false (by tb_rel)) ?_))) | ((first | show wpAny _ _ (exec (Stmt.For (PySem.Expr.Name _ _) (PySem.Expr.Name _ _) _ _ _) _) _ _ _ | show wpAny _ _ (exec (Stmt.For (PySem.Expr.Name _ _) (PySem.Expr.Subscript _ _ _) _ _ _) _) _ _ _); k_here; (rename Fr _ _ _ _ => Fw'); (with_unfolding_all refine' For_invVF Fw' (by exact rfl) (by exact rfl) ?_); k_whole) | ((show wpAny _ _ (pyIter (Value.ref _)) _ _ _); k_here; (rename Fr _ _ _ _ => Fw'); (rename News _ _ _ _ => Nw'); (first | (with_unfolding_all refine iter_listUnr (vs := [_]) (by rfl) Fw' Nw' (by k_mem) (by rfl) (by rfl) ?_) | (with_unfolding_all refine iter_listUnr (vs := [_, _]) (by rfl) Fw' Nw' (by k_mem) (by rfl) (by rfl) ?_)); clear Fw'; intro iw lw; (try k_lt lw)) | ((show wpAny _ _ (subscriptTail _ _ (Value.ref _) (Value.int _ _)) _ _ _); k_here; (first | k_dflt (refine' m_getT (by k_asm) (by k_mem) (by decide) (by first | decide | tb_rel) (by rfl) ?_ (by with_unfolding_all rfl)) | k_dflt (refine' m_get (by k_asm) (by k_mem) (by first | decide | tb_rel) (by first | decide | tb_rel) (by first | assumption | rfl) ?_ (by with_unfolding_all rfl) (by intro _; with_unfolding_all rfl)))) | ((show wpAny _ _ (callWith _ (Prod.fst (Value.builtin _, _)) (Prod.snd (_, _ :: _)) (backTo _ (starEach (_ :: _) _)) []) _ _ _); refine callWith_method1 ?_ (by with_unfolding_all rfl) (by with_unfolding_all rfl)) | ((show wpAny _ _ (compareOp _ (Value.str _ _) _) _ _ _); k_here; (first | ((show wpAny _ _ (compareOp CmpOp.Eq (Value.str _ _) (Value.str _ _)) _ _ _); refine m_eqS (by assumption) ?_) | ((show wpAny _ _ (compareOp CmpOp.In (Value.str _ _) (Value.ref _)) _ _ _); (first | k_dflt (refine' m_inT (by k_asm) (by k_mem) (by assumption) ?_) | k_dflt (refine' m_inTop (by k_asm) (by k_asm) (by k_is) (by kde_strs) (by first | assumption | rfl | decide) ?_))))) | ((show wpAny _ _ (binaryOp _ (Value.ref _) _) _ _ _); k_here; (first | ((show wpAny _ _ (binaryOp Operator.Add (Value.ref _) (Value.ref _)) _ _ _); k_dflt (refine' m_add (by k_asm) (by k_asm) (by k_mem) (by k_mem) (by tb_rel) (by tb_rel) ?_)) | ((show wpAny _ _ (binaryOp Operator.Mult (Value.ref _) (Value.int _ _)) _ _ _); k_dflt (refine' m_mul (by k_asm) (by k_asm) (by k_mem) (by rfl) (by omega) ?_))); intro Dw hw Fw Nw lw; (try k_lt lw); (try k_sweep))) | ((with_reducible show UnrEnd _ _ _ _ _ _ _); (rename Fr _ _ _ _ => uF); (rename News _ _ _ _ => uN); k_dflt (apply unr_off uF uN (by k_mem)); (· repeat (first | exact off_nil | (apply off_all; tbn_find) | apply off_eq | (apply off_ne; · k_ne))); refine ⟨by k_mem, ?_⟩) | walk1 | (dsimp only; walk1) | (leave1; (try dsimp only)))
      obtain ⟨n, rfl, hn1, hn2⟩ : ∃ n : Nat, deep = (n : Int) ∧ 2 ≤ n ∧ n ≤ 700 := by
        rcases hdeep with rfl | rfl | rfl | rfl
        · exact ⟨2, rfl, by omega, by omega⟩
        · exact ⟨9, rfl, by omega, by omega⟩
        · exact ⟨40, rfl, by omega, by omega⟩
        · exact ⟨700, rfl, by omega, by omega⟩
      clear hdeep
      repeat' ((fail_if_success (with_reducible show wpAny _ _ (pyIter _) _ _ _)); (first | (k_unfold; (try dsimp only)) | (k_end; wrow_close) | (with_reducible first | ((show wpAny _ _ (call (Value.builtin _) _) _ _ _); k_here; (first | ((show wpAny _ _ (call (Value.builtin "len") _) _ _ _); (first | k_dflt (refine' m_lenL (by k_asm) (by k_mem) (by first | (show _ = (0 : Int); rfl) | (show _ = (1 : Int); rfl) | (show _ = (2 : Int); rfl) | (show _ = (3 : Int); rfl) | (show _ = (4 : Int); rfl)) (by decide) ?_) | k_dflt (refine' m_len (by k_asm) (by k_mem) (by tb_rel) ?_))) | ((first | ((show wpAny _ _ (call (Value.builtin "list.append") _) _ _ _); k_dflt (refine' m_append (by k_asm) (by k_asm) (by first | assumption | k_upd) (by tb_rel) ?_)) | ((show wpAny _ _ (call (Value.builtin "list.extend") _) _ _ _); (first | k_dflt (refine' m_extend_nil (by k_asm) (by k_asm) (by k_mem) (by k_upd) (by tb_rel) ?_) | k_dflt (refine' m_extend (by k_asm) (by k_asm) (by k_mem) (by kl_some) (by k_upd) (by tb_rel) (by tb_rel) ?_))) | ((show wpAny _ _ (call (Value.builtin "list.pop") _) _ _ _); k_dflt (refine' m_pop (by k_asm) (by k_asm) (by k_upd) (by tb_rel) ?_))); intro hw Fw Nw; (try simp only [List.cons_append, List.nil_append] at Nw); (try k_sweep)))) | ((show wpAny _ _ (setItem (Value.ref _) (Value.int _ _) _) _ _ _); k_here; k_dflt (refine' m_set (by k_asm) (by k_asm) (by k_upd) (by tb_rel) (by tb_rel) (by tb_rel) ?_); intro hw Fw Nw; (try simp only [List.cons_append, List.nil_append] at Nw); (try k_sweep)) | ((show WhlIf _ _ _); (first | (refine WhlIf.yes (decide_eq_true (by tb_rel)) ?_) | (refine WhlIf.no (decide_eq_false (by tb_rel)) ?_))) | ((first | show wpAny _ _ (exec (Stmt.For (PySem.Expr.Name _ _) (PySem.Expr.Name _ _) _ _ _) _) _ _ _ | show wpAny _ _ (exec (Stmt.For (PySem.Expr.Name _ _) (PySem.Expr.Subscript _ _ _) _ _ _) _) _ _ _); k_here; (rename Fr _ _ _ _ => Fw'); (with_unfolding_all refine' For_invVF Fw' (by exact rfl) (by exact rfl) ?_); k_whole) | ((show wpAny _ _ (pyIter (Value.ref _)) _ _ _); k_here; (rename Fr _ _ _ _ => Fw'); (rename News _ _ _ _ => Nw'); (first | (with_unfolding_all refine iter_listUnr (vs := [_]) (by rfl) Fw' Nw' (by k_mem) (by rfl) (by rfl) ?_) | (with_unfolding_all refine iter_listUnr (vs := [_, _]) (by rfl) Fw' Nw' (by k_mem) (by rfl) (by rfl) ?_)); clear Fw'; intro iw lw; (try k_lt lw)) | ((show wpAny _ _ (subscriptTail _ _ (Value.ref _) (Value.int _ _)) _ _ _); k_here; (first | k_dflt (refine' m_getT (by k_asm) (by k_mem) (by decide) (by first | decide | tb_rel) (by rfl) ?_ (by with_unfolding_all rfl)) | k_dflt (refine' m_get (by k_asm) (by k_mem) (by first | decide | tb_rel) (by first | decide | tb_rel) (by first | assumption | rfl) ?_ (by with_unfolding_all rfl) (by intro _; with_unfolding_all rfl)))) | ((show wpAny _ _ (callWith _ (Prod.fst (Value.builtin _, _)) (Prod.snd (_, _ :: _)) (backTo _ (starEach (_ :: _) _)) []) _ _ _); refine callWith_method1 ?_ (by with_unfolding_all rfl) (by with_unfolding_all rfl)) | ((show wpAny _ _ (compareOp _ (Value.str _ _) _) _ _ _); k_here; (first | ((show wpAny _ _ (compareOp CmpOp.Eq (Value.str _ _) (Value.str _ _)) _ _ _); refine m_eqS (by assumption) ?_) | ((show wpAny _ _ (compareOp CmpOp.In (Value.str _ _) (Value.ref _)) _ _ _); (first | k_dflt (refine' m_inT (by k_asm) (by k_mem) (by assumption) ?_) | k_dflt (refine' m_inTop (by k_asm) (by k_asm) (by k_is) (by kde_strs) (by first | assumption | rfl | decide) ?_))))) | ((show wpAny _ _ (binaryOp _ (Value.ref _) _) _ _ _); k_here; (first | ((show wpAny _ _ (binaryOp Operator.Add (Value.ref _) (Value.ref _)) _ _ _); k_dflt (refine' m_add (by k_asm) (by k_asm) (by k_mem) (by k_mem) (by tb_rel) (by tb_rel) ?_)) | ((show wpAny _ _ (binaryOp Operator.Mult (Value.ref _) (Value.int _ _)) _ _ _); k_dflt (refine' m_mul (by k_asm) (by k_asm) (by k_mem) (by rfl) (by omega) ?_))); intro Dw hw Fw Nw lw; (try k_lt lw); (try k_sweep))) | ((with_reducible show UnrEnd _ _ _ _ _ _ _); (rename Fr _ _ _ _ => uF); (rename News _ _ _ _ => uN); k_dflt (apply unr_off uF uN (by k_mem)); (· repeat (first | exact off_nil | (apply off_all; tbn_find) | apply off_eq | (apply off_ne; · k_ne))); refine ⟨by k_mem, ?_⟩) | walk1 | (dsimp only; walk1) | (leave1; (try dsimp only))))
      rename Fr _ _ _ _ => aF
      rename News _ _ _ _ => aN
      rename IsRange _ _ _ _ _ _ _ _ => aR
      rename Obj.data _ = .cell _ => aC
      with_unfolding_all refine cut_first aF aN aC (by rfl) (by rfl) (by k_mem) ?first fun first => ?_
      case first =>
        clear aF aN aR
        intro i t S kk a Tb h tk u hi hS hoT F' N'
        (try dsimp only)
        repeat' ((fail_if_success (with_reducible show FirstPost _ _ _ _ _ _ _ _ _ _ _ _ _)); (first | (k_unfold; (try dsimp only)) | (k_end; wrow_close) | (with_reducible first | ((show wpAny _ _ (call (Value.builtin _) _) _ _ _); k_here; (first | ((show wpAny _ _ (call (Value.builtin "len") _) _ _ _); (first | k_dflt (refine' m_lenL (by k_asm) (by k_mem) (by first | (show _ = (0 : Int); rfl) | (show _ = (1 : Int); rfl) | (show _ = (2 : Int); rfl) | (show _ = (3 : Int); rfl) | (show _ = (4 : Int); rfl)) (by decide) ?_) | k_dflt (refine' m_len (by k_asm) (by k_mem) (by tb_rel) ?_))) | ((first | ((show wpAny _ _ (call (Value.builtin "list.append") _) _ _ _); k_dflt (refine' m_append (by k_asm) (by k_asm) (by first | assumption | k_upd) (by tb_rel) ?_)) | ((show wpAny _ _ (call (Value.builtin "list.extend") _) _ _ _); (first | k_dflt (refine' m_extend_nil (by k_asm) (by k_asm) (by k_mem) (by k_upd) (by tb_rel) ?_) | k_dflt (refine' m_extend (by k_asm) (by k_asm) (by k_mem) (by kl_some) (by k_upd) (by tb_rel) (by tb_rel) ?_))) | ((show wpAny _ _ (call (Value.builtin "list.pop") _) _ _ _); k_dflt (refine' m_pop (by k_asm) (by k_asm) (by k_upd) (by tb_rel) ?_))); intro hw Fw Nw; (try simp only [List.cons_append, List.nil_append] at Nw); (try k_sweep)))) | ((show wpAny _ _ (setItem (Value.ref _) (Value.int _ _) _) _ _ _); k_here; k_dflt (refine' m_set (by k_asm) (by k_asm) (by k_upd) (by tb_rel) (by tb_rel) (by tb_rel) ?_); intro hw Fw Nw; (try simp only [List.cons_append, List.nil_append] at Nw); (try k_sweep)) | ((show WhlIf _ _ _); (first | (refine WhlIf.yes (decide_eq_true (by tb_rel)) ?_) | (refine WhlIf.no (decide_eq_false (by tb_rel)) ?_))) | ((first | show wpAny _ _ (exec (Stmt.For (PySem.Expr.Name _ _) (PySem.Expr.Name _ _) _ _ _) _) _ _ _ | show wpAny _ _ (exec (Stmt.For (PySem.Expr.Name _ _) (PySem.Expr.Subscript _ _ _) _ _ _) _) _ _ _); k_here; (rename Fr _ _ _ _ => Fw'); (with_unfolding_all refine' For_invVF Fw' (by exact rfl) (by exact rfl) ?_); k_whole) | ((show wpAny _ _ (pyIter (Value.ref _)) _ _ _); k_here; (rename Fr _ _ _ _ => Fw'); (rename News _ _ _ _ => Nw'); (first | (with_unfolding_all refine iter_listUnr (vs := [_]) (by rfl) Fw' Nw' (by k_mem) (by rfl) (by rfl) ?_) | (with_unfolding_all refine iter_listUnr (vs := [_, _]) (by rfl) Fw' Nw' (by k_mem) (by rfl) (by rfl) ?_)); clear Fw'; intro iw lw; (try k_lt lw)) | ((show wpAny _ _ (subscriptTail _ _ (Value.ref _) (Value.int _ _)) _ _ _); k_here; (first | k_dflt (refine' m_getT (by k_asm) (by k_mem) (by decide) (by first | decide | tb_rel) (by rfl) ?_ (by with_unfolding_all rfl)) | k_dflt (refine' m_get (by k_asm) (by k_mem) (by first | decide | tb_rel) (by first | decide | tb_rel) (by first | assumption | rfl) ?_ (by with_unfolding_all rfl) (by intro _; with_unfolding_all rfl)))) | ((show wpAny _ _ (callWith _ (Prod.fst (Value.builtin _, _)) (Prod.snd (_, _ :: _)) (backTo _ (starEach (_ :: _) _)) []) _ _ _); refine callWith_method1 ?_ (by with_unfolding_all rfl) (by with_unfolding_all rfl)) | ((show wpAny _ _ (compareOp _ (Value.str _ _) _) _ _ _); k_here; (first | ((show wpAny _ _ (compareOp CmpOp.Eq (Value.str _ _) (Value.str _ _)) _ _ _); refine m_eqS (by assumption) ?_) | ((show wpAny _ _ (compareOp CmpOp.In (Value.str _ _) (Value.ref _)) _ _ _); (first | k_dflt (refine' m_inT (by k_asm) (by k_mem) (by assumption) ?_) | k_dflt (refine' m_inTop (by k_asm) (by k_asm) (by k_is) (by kde_strs) (by first | assumption | rfl | decide) ?_))))) | ((show wpAny _ _ (binaryOp _ (Value.ref _) _) _ _ _); k_here; (first | ((show wpAny _ _ (binaryOp Operator.Add (Value.ref _) (Value.ref _)) _ _ _); k_dflt (refine' m_add (by k_asm) (by k_asm) (by k_mem) (by k_mem) (by tb_rel) (by tb_rel) ?_)) | ((show wpAny _ _ (binaryOp Operator.Mult (Value.ref _) (Value.int _ _)) _ _ _); k_dflt (refine' m_mul (by k_asm) (by k_asm) (by k_mem) (by rfl) (by omega) ?_))); intro Dw hw Fw Nw lw; (try k_lt lw); (try k_sweep))) | ((with_reducible show UnrEnd _ _ _ _ _ _ _); (rename Fr _ _ _ _ => uF); (rename News _ _ _ _ => uN); k_dflt (apply unr_off uF uN (by k_mem)); (· repeat (first | exact off_nil | (apply off_all; tbn_find) | apply off_eq | (apply off_ne; · k_ne))); refine ⟨by k_mem, ?_⟩) | walk1 | (dsimp only; walk1) | (leave1; (try dsimp only))))
        rename News _ _ _ _ => kN
        rename Fr _ _ _ _ => kF
        exact first_end kF kN (by rfl) (by rfl) (by rfl) (by rfl) (by k_mem) (by k_mem) (fun p hp => by repeat (first | exact hp | refine List.Mem.tail _ ?_))
      have hform : form = 0 ∨ form = 3 ∨ form = 1 ∨ form = 2 := by omega
      rcases hform with rfl | rfl | rfl | rfl
      · refine law_iterC (n := n) (fun S => repN S.length) aC (by rfl) aR (by rfl) hn2 aF aN (by rfl) (by rfl) (by rfl) (by k_mem) (by k_mem) (by k_mem) ?hoff (by rfl) ?turn ?done
        case hoff => constructor <;> (refine neN ?_; omega)
        case turn =>
          clear aF aN aR
          intro i t S kk a Ta Tb h tk u hi hS hTT hoT hN F' N'
          refine use_first first (Nat.lt_of_lt_of_le hi hn2) hS hoT F' N' ?_
          clear F' N'
          intro x kk' h' tk' u' F' N'
          (try dsimp only)
          repeat' ((fail_if_success (with_reducible show LawPost _ _ _ _ _ _ _ _ _ _ _ _)); (first | (k_unfold; (try dsimp only)) | (k_end; wrow_close) | (with_reducible first | ((show wpAny _ _ (call (Value.builtin _) _) _ _ _); k_here; (first | ((show wpAny _ _ (call (Value.builtin "len") _) _ _ _); (first | k_dflt (refine' m_lenL (by k_asm) (by k_mem) (by first | (show _ = (0 : Int); rfl) | (show _ = (1 : Int); rfl) | (show _ = (2 : Int); rfl) | (show _ = (3 : Int); rfl) | (show _ = (4 : Int); rfl)) (by decide) ?_) | k_dflt (refine' m_len (by k_asm) (by k_mem) (by tb_rel) ?_))) | ((first | ((show wpAny _ _ (call (Value.builtin "list.append") _) _ _ _); k_dflt (refine' m_append (by k_asm) (by k_asm) (by first | assumption | k_upd) (by tb_rel) ?_)) | ((show wpAny _ _ (call (Value.builtin "list.extend") _) _ _ _); (first | k_dflt (refine' m_extend_nil (by k_asm) (by k_asm) (by k_mem) (by k_upd) (by tb_rel) ?_) | k_dflt (refine' m_extend (by k_asm) (by k_asm) (by k_mem) (by kl_some) (by k_upd) (by tb_rel) (by tb_rel) ?_))) | ((show wpAny _ _ (call (Value.builtin "list.pop") _) _ _ _); k_dflt (refine' m_pop (by k_asm) (by k_asm) (by k_upd) (by tb_rel) ?_))); intro hw Fw Nw; (try simp only [List.cons_append, List.nil_append] at Nw); (try k_sweep)))) | ((show wpAny _ _ (setItem (Value.ref _) (Value.int _ _) _) _ _ _); k_here; k_dflt (refine' m_set (by k_asm) (by k_asm) (by k_upd) (by tb_rel) (by tb_rel) (by tb_rel) ?_); intro hw Fw Nw; (try simp only [List.cons_append, List.nil_append] at Nw); (try k_sweep)) | ((show WhlIf _ _ _); (first | (refine WhlIf.yes (decide_eq_true (by tb_rel)) ?_) | (refine WhlIf.no (decide_eq_false (by tb_rel)) ?_))) | ((first | show wpAny _ _ (exec (Stmt.For (PySem.Expr.Name _ _) (PySem.Expr.Name _ _) _ _ _) _) _ _ _ | show wpAny _ _ (exec (Stmt.For (PySem.Expr.Name _ _) (PySem.Expr.Subscript _ _ _) _ _ _) _) _ _ _); k_here; (rename Fr _ _ _ _ => Fw'); (with_unfolding_all refine' For_invVF Fw' (by exact rfl) (by exact rfl) ?_); k_whole) | ((show wpAny _ _ (pyIter (Value.ref _)) _ _ _); k_here; (rename Fr _ _ _ _ => Fw'); (rename News _ _ _ _ => Nw'); (first | (with_unfolding_all refine iter_listUnr (vs := [_]) (by rfl) Fw' Nw' (by k_mem) (by rfl) (by rfl) ?_) | (with_unfolding_all refine iter_listUnr (vs := [_, _]) (by rfl) Fw' Nw' (by k_mem) (by rfl) (by rfl) ?_)); clear Fw'; intro iw lw; (try k_lt lw)) | ((show wpAny _ _ (subscriptTail _ _ (Value.ref _) (Value.int _ _)) _ _ _); k_here; (first | k_dflt (refine' m_getT (by k_asm) (by k_mem) (by decide) (by first | decide | tb_rel) (by rfl) ?_ (by with_unfolding_all rfl)) | k_dflt (refine' m_get (by k_asm) (by k_mem) (by first | decide | tb_rel) (by first | decide | tb_rel) (by first | assumption | rfl) ?_ (by with_unfolding_all rfl) (by intro _; with_unfolding_all rfl)))) | ((show wpAny _ _ (callWith _ (Prod.fst (Value.builtin _, _)) (Prod.snd (_, _ :: _)) (backTo _ (starEach (_ :: _) _)) []) _ _ _); refine callWith_method1 ?_ (by with_unfolding_all rfl) (by with_unfolding_all rfl)) | ((show wpAny _ _ (compareOp _ (Value.str _ _) _) _ _ _); k_here; (first | ((show wpAny _ _ (compareOp CmpOp.Eq (Value.str _ _) (Value.str _ _)) _ _ _); refine m_eqS (by assumption) ?_) | ((show wpAny _ _ (compareOp CmpOp.In (Value.str _ _) (Value.ref _)) _ _ _); (first | k_dflt (refine' m_inT (by k_asm) (by k_mem) (by assumption) ?_) | k_dflt (refine' m_inTop (by k_asm) (by k_asm) (by k_is) (by kde_strs) (by first | assumption | rfl | decide) ?_))))) | ((show wpAny _ _ (binaryOp _ (Value.ref _) _) _ _ _); k_here; (first | ((show wpAny _ _ (binaryOp Operator.Add (Value.ref _) (Value.ref _)) _ _ _); k_dflt (refine' m_add (by k_asm) (by k_asm) (by k_mem) (by k_mem) (by tb_rel) (by tb_rel) ?_)) | ((show wpAny _ _ (binaryOp Operator.Mult (Value.ref _) (Value.int _ _)) _ _ _); k_dflt (refine' m_mul (by k_asm) (by k_asm) (by k_mem) (by rfl) (by omega) ?_))); intro Dw hw Fw Nw lw; (try k_lt lw); (try k_sweep))) | ((with_reducible show UnrEnd _ _ _ _ _ _ _); (rename Fr _ _ _ _ => uF); (rename News _ _ _ _ => uN); k_dflt (apply unr_off uF uN (by k_mem)); (· repeat (first | exact off_nil | (apply off_all; tbn_find) | apply off_eq | (apply off_ne; · k_ne))); refine ⟨by k_mem, ?_⟩) | walk1 | (dsimp only; walk1) | (leave1; (try dsimp only))))
          rename News _ _ _ _ => kN
          rename Fr _ _ _ _ => kF
          refine law_end [_] (by assumption) ?hX kF (by rfl) (by rfl) (by rfl) kN ?hN
          case hX => repeat (first | exact True.intro | (refine And.intro (by (try dsimp only); omega) ?_))
          case hN => exact node_rep (by k_mem) hN
        case done =>
          clear aF aN aR
          intro S kk a Ta h tk u hS hSr hoT hN F' N'
          (try dsimp only)
          repeat' ((fail_if_success (with_reducible show wpAny _ _ (call (Value.ref 112) _) _ _ _)); (first | (k_unfold; (try dsimp only)) | (k_end; wrow_close) | (with_reducible first | ((show wpAny _ _ (call (Value.builtin _) _) _ _ _); k_here; (first | ((show wpAny _ _ (call (Value.builtin "len") _) _ _ _); (first | k_dflt (refine' m_lenL (by k_asm) (by k_mem) (by first | (show _ = (0 : Int); rfl) | (show _ = (1 : Int); rfl) | (show _ = (2 : Int); rfl) | (show _ = (3 : Int); rfl) | (show _ = (4 : Int); rfl)) (by decide) ?_) | k_dflt (refine' m_len (by k_asm) (by k_mem) (by tb_rel) ?_))) | ((first | ((show wpAny _ _ (call (Value.builtin "list.append") _) _ _ _); k_dflt (refine' m_append (by k_asm) (by k_asm) (by first | assumption | k_upd) (by tb_rel) ?_)) | ((show wpAny _ _ (call (Value.builtin "list.extend") _) _ _ _); (first | k_dflt (refine' m_extend_nil (by k_asm) (by k_asm) (by k_mem) (by k_upd) (by tb_rel) ?_) | k_dflt (refine' m_extend (by k_asm) (by k_asm) (by k_mem) (by kl_some) (by k_upd) (by tb_rel) (by tb_rel) ?_))) | ((show wpAny _ _ (call (Value.builtin "list.pop") _) _ _ _); k_dflt (refine' m_pop (by k_asm) (by k_asm) (by k_upd) (by tb_rel) ?_))); intro hw Fw Nw; (try simp only [List.cons_append, List.nil_append] at Nw); (try k_sweep)))) | ((show wpAny _ _ (setItem (Value.ref _) (Value.int _ _) _) _ _ _); k_here; k_dflt (refine' m_set (by k_asm) (by k_asm) (by k_upd) (by tb_rel) (by tb_rel) (by tb_rel) ?_); intro hw Fw Nw; (try simp only [List.cons_append, List.nil_append] at Nw); (try k_sweep)) | ((show WhlIf _ _ _); (first | (refine WhlIf.yes (decide_eq_true (by tb_rel)) ?_) | (refine WhlIf.no (decide_eq_false (by tb_rel)) ?_))) | ((first | show wpAny _ _ (exec (Stmt.For (PySem.Expr.Name _ _) (PySem.Expr.Name _ _) _ _ _) _) _ _ _ | show wpAny _ _ (exec (Stmt.For (PySem.Expr.Name _ _) (PySem.Expr.Subscript _ _ _) _ _ _) _) _ _ _); k_here; (rename Fr _ _ _ _ => Fw'); (with_unfolding_all refine' For_invVF Fw' (by exact rfl) (by exact rfl) ?_); k_whole) | ((show wpAny _ _ (pyIter (Value.ref _)) _ _ _); k_here; (rename Fr _ _ _ _ => Fw'); (rename News _ _ _ _ => Nw'); (first | (with_unfolding_all refine iter_listUnr (vs := [_]) (by rfl) Fw' Nw' (by k_mem) (by rfl) (by rfl) ?_) | (with_unfolding_all refine iter_listUnr (vs := [_, _]) (by rfl) Fw' Nw' (by k_mem) (by rfl) (by rfl) ?_)); clear Fw'; intro iw lw; (try k_lt lw)) | ((show wpAny _ _ (subscriptTail _ _ (Value.ref _) (Value.int _ _)) _ _ _); k_here; (first | k_dflt (refine' m_getT (by k_asm) (by k_mem) (by decide) (by first | decide | tb_rel) (by rfl) ?_ (by with_unfolding_all rfl)) | k_dflt (refine' m_get (by k_asm) (by k_mem) (by first | decide | tb_rel) (by first | decide | tb_rel) (by first | assumption | rfl) ?_ (by with_unfolding_all rfl) (by intro _; with_unfolding_all rfl)))) | ((show wpAny _ _ (callWith _ (Prod.fst (Value.builtin _, _)) (Prod.snd (_, _ :: _)) (backTo _ (starEach (_ :: _) _)) []) _ _ _); refine callWith_method1 ?_ (by with_unfolding_all rfl) (by with_unfolding_all rfl)) | ((show wpAny _ _ (compareOp _ (Value.str _ _) _) _ _ _); k_here; (first | ((show wpAny _ _ (compareOp CmpOp.Eq (Value.str _ _) (Value.str _ _)) _ _ _); refine m_eqS (by assumption) ?_) | ((show wpAny _ _ (compareOp CmpOp.In (Value.str _ _) (Value.ref _)) _ _ _); (first | k_dflt (refine' m_inT (by k_asm) (by k_mem) (by assumption) ?_) | k_dflt (refine' m_inTop (by k_asm) (by k_asm) (by k_is) (by kde_strs) (by first | assumption | rfl | decide) ?_))))) | ((show wpAny _ _ (binaryOp _ (Value.ref _) _) _ _ _); k_here; (first | ((show wpAny _ _ (binaryOp Operator.Add (Value.ref _) (Value.ref _)) _ _ _); k_dflt (refine' m_add (by k_asm) (by k_asm) (by k_mem) (by k_mem) (by tb_rel) (by tb_rel) ?_)) | ((show wpAny _ _ (binaryOp Operator.Mult (Value.ref _) (Value.int _ _)) _ _ _); k_dflt (refine' m_mul (by k_asm) (by k_asm) (by k_mem) (by rfl) (by omega) ?_))); intro Dw hw Fw Nw lw; (try k_lt lw); (try k_sweep))) | ((with_reducible show UnrEnd _ _ _ _ _ _ _); (rename Fr _ _ _ _ => uF); (rename News _ _ _ _ => uN); k_dflt (apply unr_off uF uN (by k_mem)); (· repeat (first | exact off_nil | (apply off_all; tbn_find) | apply off_eq | (apply off_ne; · k_ne))); refine ⟨by k_mem, ?_⟩) | walk1 | (dsimp only; walk1) | (leave1; (try dsimp only))))
          rename News _ _ _ _ => cN
          rename Fr _ _ _ _ => cF
          refine cp _ (repN S.length) a _ (hN.mono fun p hp => .tail _ (.tail _ hp)) (by rw [repN_depth]; omega) (straight_all _) _ _ _ _ _ _ _ _ _ _ _ _ _ _ _ _ _ _ (by assumption) cF (by k_asm) cN (by assumption) (by rfl) ?_
          clear cF cN
          rintro _ T' h' tk' F' N' ⟨ao, vs, no, rfl, hTT, hao, hO⟩
          (try dsimp only)
          replace N' := news_four (C := (_, _)) N' hao (hTT _ (.head _)) (hTT _ (.tail _ (.head _)))
          rw [hS] at hO
          repeat' ((fail_if_success (with_reducible show wpAny _ _ (call (Value.ref _) _) _ _ _)); (first | (k_unfold; (try dsimp only)) | (k_end; wrow_close) | (with_reducible first | ((show wpAny _ _ (call (Value.builtin _) _) _ _ _); k_here; (first | ((show wpAny _ _ (call (Value.builtin "len") _) _ _ _); (first | k_dflt (refine' m_lenL (by k_asm) (by k_mem) (by first | (show _ = (0 : Int); rfl) | (show _ = (1 : Int); rfl) | (show _ = (2 : Int); rfl) | (show _ = (3 : Int); rfl) | (show _ = (4 : Int); rfl)) (by decide) ?_) | k_dflt (refine' m_len (by k_asm) (by k_mem) (by tb_rel) ?_))) | ((first | ((show wpAny _ _ (call (Value.builtin "list.append") _) _ _ _); k_dflt (refine' m_append (by k_asm) (by k_asm) (by first | assumption | k_upd) (by tb_rel) ?_)) | ((show wpAny _ _ (call (Value.builtin "list.extend") _) _ _ _); (first | k_dflt (refine' m_extend_nil (by k_asm) (by k_asm) (by k_mem) (by k_upd) (by tb_rel) ?_) | k_dflt (refine' m_extend (by k_asm) (by k_asm) (by k_mem) (by kl_some) (by k_upd) (by tb_rel) (by tb_rel) ?_))) | ((show wpAny _ _ (call (Value.builtin "list.pop") _) _ _ _); k_dflt (refine' m_pop (by k_asm) (by k_asm) (by k_upd) (by tb_rel) ?_))); intro hw Fw Nw; (try simp only [List.cons_append, List.nil_append] at Nw); (try k_sweep)))) | ((show wpAny _ _ (setItem (Value.ref _) (Value.int _ _) _) _ _ _); k_here; k_dflt (refine' m_set (by k_asm) (by k_asm) (by k_upd) (by tb_rel) (by tb_rel) (by tb_rel) ?_); intro hw Fw Nw; (try simp only [List.cons_append, List.nil_append] at Nw); (try k_sweep)) | ((show WhlIf _ _ _); (first | (refine WhlIf.yes (decide_eq_true (by tb_rel)) ?_) | (refine WhlIf.no (decide_eq_false (by tb_rel)) ?_))) | ((first | show wpAny _ _ (exec (Stmt.For (PySem.Expr.Name _ _) (PySem.Expr.Name _ _) _ _ _) _) _ _ _ | show wpAny _ _ (exec (Stmt.For (PySem.Expr.Name _ _) (PySem.Expr.Subscript _ _ _) _ _ _) _) _ _ _); k_here; (rename Fr _ _ _ _ => Fw'); (with_unfolding_all refine' For_invVF Fw' (by exact rfl) (by exact rfl) ?_); k_whole) | ((show wpAny _ _ (pyIter (Value.ref _)) _ _ _); k_here; (rename Fr _ _ _ _ => Fw'); (rename News _ _ _ _ => Nw'); (first | (with_unfolding_all refine iter_listUnr (vs := [_]) (by rfl) Fw' Nw' (by k_mem) (by rfl) (by rfl) ?_) | (with_unfolding_all refine iter_listUnr (vs := [_, _]) (by rfl) Fw' Nw' (by k_mem) (by rfl) (by rfl) ?_)); clear Fw'; intro iw lw; (try k_lt lw)) | ((show wpAny _ _ (subscriptTail _ _ (Value.ref _) (Value.int _ _)) _ _ _); k_here; (first | k_dflt (refine' m_getT (by k_asm) (by k_mem) (by decide) (by first | decide | tb_rel) (by rfl) ?_ (by with_unfolding_all rfl)) | k_dflt (refine' m_get (by k_asm) (by k_mem) (by first | decide | tb_rel) (by first | decide | tb_rel) (by first | assumption | rfl) ?_ (by with_unfolding_all rfl) (by intro _; with_unfolding_all rfl)))) | ((show wpAny _ _ (callWith _ (Prod.fst (Value.builtin _, _)) (Prod.snd (_, _ :: _)) (backTo _ (starEach (_ :: _) _)) []) _ _ _); refine callWith_method1 ?_ (by with_unfolding_all rfl) (by with_unfolding_all rfl)) | ((show wpAny _ _ (compareOp _ (Value.str _ _) _) _ _ _); k_here; (first | ((show wpAny _ _ (compareOp CmpOp.Eq (Value.str _ _) (Value.str _ _)) _ _ _); refine m_eqS (by assumption) ?_) | ((show wpAny _ _ (compareOp CmpOp.In (Value.str _ _) (Value.ref _)) _ _ _); (first | k_dflt (refine' m_inT (by k_asm) (by k_mem) (by assumption) ?_) | k_dflt (refine' m_inTop (by k_asm) (by k_asm) (by k_is) (by kde_strs) (by first | assumption | rfl | decide) ?_))))) | ((show wpAny _ _ (binaryOp _ (Value.ref _) _) _ _ _); k_here; (first | ((show wpAny _ _ (binaryOp Operator.Add (Value.ref _) (Value.ref _)) _ _ _); k_dflt (refine' m_add (by k_asm) (by k_asm) (by k_mem) (by k_mem) (by tb_rel) (by tb_rel) ?_)) | ((show wpAny _ _ (binaryOp Operator.Mult (Value.ref _) (Value.int _ _)) _ _ _); k_dflt (refine' m_mul (by k_asm) (by k_asm) (by k_mem) (by rfl) (by omega) ?_))); intro Dw hw Fw Nw lw; (try k_lt lw); (try k_sweep))) | ((with_reducible show UnrEnd _ _ _ _ _ _ _); (rename Fr _ _ _ _ => uF); (rename News _ _ _ _ => uN); k_dflt (apply unr_off uF uN (by k_mem)); (· repeat (first | exact off_nil | (apply off_all; tbn_find) | apply off_eq | (apply off_ne; · k_ne))); refine ⟨by k_mem, ?_⟩) | walk1 | (dsimp only; walk1) | (leave1; (try dsimp only))))
          rename News _ _ _ _ => dN
          rename Fr _ _ _ _ => dF
          refine crep _ n _ _ hn2 _ _ _ _ _ _ _ _ _ _ _ _ _ _ _ _ _ _ (by assumption) dF (by k_asm) dN (by assumption) (by rfl) ?_
          clear dF dN
          rintro _ T2 h2 tk2 F' N' ⟨a2, ws, n2, rfl, hT2, ha2, hO2⟩
          (try dsimp only)
          replace N' := news_four (C := (_, _)) N' ha2 (hT2 _ (.head _)) (hT2 _ (.tail _ (.tail _ (.head _))))
          have hwl : ws.length ≤ 5000 := by rw [hO2.length]; have := code_length (repN n) 0; rw [repN_depth] at this; omega
          repeat' ((fail_if_success (with_reducible show wpAny _ _ (compareOp _ _ _) _ _ _)); (first | (k_unfold; (try dsimp only)) | (k_end; wrow_close) | (with_reducible first | ((show wpAny _ _ (call (Value.builtin _) _) _ _ _); k_here; (first | ((show wpAny _ _ (call (Value.builtin "len") _) _ _ _); (first | k_dflt (refine' m_lenL (by k_asm) (by k_mem) (by first | (show _ = (0 : Int); rfl) | (show _ = (1 : Int); rfl) | (show _ = (2 : Int); rfl) | (show _ = (3 : Int); rfl) | (show _ = (4 : Int); rfl)) (by decide) ?_) | k_dflt (refine' m_len (by k_asm) (by k_mem) (by tb_rel) ?_))) | ((first | ((show wpAny _ _ (call (Value.builtin "list.append") _) _ _ _); k_dflt (refine' m_append (by k_asm) (by k_asm) (by first | assumption | k_upd) (by tb_rel) ?_)) | ((show wpAny _ _ (call (Value.builtin "list.extend") _) _ _ _); (first | k_dflt (refine' m_extend_nil (by k_asm) (by k_asm) (by k_mem) (by k_upd) (by tb_rel) ?_) | k_dflt (refine' m_extend (by k_asm) (by k_asm) (by k_mem) (by kl_some) (by k_upd) (by tb_rel) (by tb_rel) ?_))) | ((show wpAny _ _ (call (Value.builtin "list.pop") _) _ _ _); k_dflt (refine' m_pop (by k_asm) (by k_asm) (by k_upd) (by tb_rel) ?_))); intro hw Fw Nw; (try simp only [List.cons_append, List.nil_append] at Nw); (try k_sweep)))) | ((show wpAny _ _ (setItem (Value.ref _) (Value.int _ _) _) _ _ _); k_here; k_dflt (refine' m_set (by k_asm) (by k_asm) (by k_upd) (by tb_rel) (by tb_rel) (by tb_rel) ?_); intro hw Fw Nw; (try simp only [List.cons_append, List.nil_append] at Nw); (try k_sweep)) | ((show WhlIf _ _ _); (first | (refine WhlIf.yes (decide_eq_true (by tb_rel)) ?_) | (refine WhlIf.no (decide_eq_false (by tb_rel)) ?_))) | ((first | show wpAny _ _ (exec (Stmt.For (PySem.Expr.Name _ _) (PySem.Expr.Name _ _) _ _ _) _) _ _ _ | show wpAny _ _ (exec (Stmt.For (PySem.Expr.Name _ _) (PySem.Expr.Subscript _ _ _) _ _ _) _) _ _ _); k_here; (rename Fr _ _ _ _ => Fw'); (with_unfolding_all refine' For_invVF Fw' (by exact rfl) (by exact rfl) ?_); k_whole) | ((show wpAny _ _ (pyIter (Value.ref _)) _ _ _); k_here; (rename Fr _ _ _ _ => Fw'); (rename News _ _ _ _ => Nw'); (first | (with_unfolding_all refine iter_listUnr (vs := [_]) (by rfl) Fw' Nw' (by k_mem) (by rfl) (by rfl) ?_) | (with_unfolding_all refine iter_listUnr (vs := [_, _]) (by rfl) Fw' Nw' (by k_mem) (by rfl) (by rfl) ?_)); clear Fw'; intro iw lw; (try k_lt lw)) | ((show wpAny _ _ (subscriptTail _ _ (Value.ref _) (Value.int _ _)) _ _ _); k_here; (first | k_dflt (refine' m_getT (by k_asm) (by k_mem) (by decide) (by first | decide | tb_rel) (by rfl) ?_ (by with_unfolding_all rfl)) | k_dflt (refine' m_get (by k_asm) (by k_mem) (by first | decide | tb_rel) (by first | decide | tb_rel) (by first | assumption | rfl) ?_ (by with_unfolding_all rfl) (by intro _; with_unfolding_all rfl)))) | ((show wpAny _ _ (callWith _ (Prod.fst (Value.builtin _, _)) (Prod.snd (_, _ :: _)) (backTo _ (starEach (_ :: _) _)) []) _ _ _); refine callWith_method1 ?_ (by with_unfolding_all rfl) (by with_unfolding_all rfl)) | ((show wpAny _ _ (compareOp _ (Value.str _ _) _) _ _ _); k_here; (first | ((show wpAny _ _ (compareOp CmpOp.Eq (Value.str _ _) (Value.str _ _)) _ _ _); refine m_eqS (by assumption) ?_) | ((show wpAny _ _ (compareOp CmpOp.In (Value.str _ _) (Value.ref _)) _ _ _); (first | k_dflt (refine' m_inT (by k_asm) (by k_mem) (by assumption) ?_) | k_dflt (refine' m_inTop (by k_asm) (by k_asm) (by k_is) (by kde_strs) (by first | assumption | rfl | decide) ?_))))) | ((show wpAny _ _ (binaryOp _ (Value.ref _) _) _ _ _); k_here; (first | ((show wpAny _ _ (binaryOp Operator.Add (Value.ref _) (Value.ref _)) _ _ _); k_dflt (refine' m_add (by k_asm) (by k_asm) (by k_mem) (by k_mem) (by tb_rel) (by tb_rel) ?_)) | ((show wpAny _ _ (binaryOp Operator.Mult (Value.ref _) (Value.int _ _)) _ _ _); k_dflt (refine' m_mul (by k_asm) (by k_asm) (by k_mem) (by rfl) (by omega) ?_))); intro Dw hw Fw Nw lw; (try k_lt lw); (try k_sweep))) | ((with_reducible show UnrEnd _ _ _ _ _ _ _); (rename Fr _ _ _ _ => uF); (rename News _ _ _ _ => uN); k_dflt (apply unr_off uF uN (by k_mem)); (· repeat (first | exact off_nil | (apply off_all; tbn_find) | apply off_eq | (apply off_ne; · k_ne))); refine ⟨by k_mem, ?_⟩) | walk1 | (dsimp only; walk1) | (leave1; (try dsimp only))))
          rename News _ _ _ _ => eN
          refine eq_ords (os := code (repN n) 0 ++ [.done]) eN (by k_mem) (by k_mem) (hO.mono fun p hp => ?m1) ((hO2.mono fun p hp => ?m2).append (.one (.done (by k_mem)))) ?hu ?_
          case m1 => repeat (first | exact hT2 _ (.tail _ (.tail _ (.tail _ hp))) | apply List.Mem.tail)
          case m2 => repeat (first | exact hp | apply List.Mem.tail)
          case hu => ktr_units
          (try dsimp only)
          rename Fr _ _ _ _ => eF2
          exact hend _ _ _ eF2
      · refine law_iterC (n := n) (fun S => choN S.length) aC (by rfl) aR (by rfl) hn2 aF aN (by rfl) (by rfl) (by rfl) (by k_mem) (by k_mem) (by k_mem) ?hoff (by rfl) ?turn ?done
        case hoff => constructor <;> (refine neN ?_; omega)
        case turn =>
          clear aF aN aR
          intro i t S kk a Ta Tb h tk u hi hS hTT hoT hN F' N'
          refine use_first first (Nat.lt_of_lt_of_le hi hn2) hS hoT F' N' ?_
          clear F' N'
          intro x kk' h' tk' u' F' N'
          (try dsimp only)
          repeat' ((fail_if_success (with_reducible show LawPost _ _ _ _ _ _ _ _ _ _ _ _)); (first | (k_unfold; (try dsimp only)) | (k_end; wrow_close) | (with_reducible first | ((show wpAny _ _ (call (Value.builtin _) _) _ _ _); k_here; (first | ((show wpAny _ _ (call (Value.builtin "len") _) _ _ _); (first | k_dflt (refine' m_lenL (by k_asm) (by k_mem) (by first | (show _ = (0 : Int); rfl) | (show _ = (1 : Int); rfl) | (show _ = (2 : Int); rfl) | (show _ = (3 : Int); rfl) | (show _ = (4 : Int); rfl)) (by decide) ?_) | k_dflt (refine' m_len (by k_asm) (by k_mem) (by tb_rel) ?_))) | ((first | ((show wpAny _ _ (call (Value.builtin "list.append") _) _ _ _); k_dflt (refine' m_append (by k_asm) (by k_asm) (by first | assumption | k_upd) (by tb_rel) ?_)) | ((show wpAny _ _ (call (Value.builtin "list.extend") _) _ _ _); (first | k_dflt (refine' m_extend_nil (by k_asm) (by k_asm) (by k_mem) (by k_upd) (by tb_rel) ?_) | k_dflt (refine' m_extend (by k_asm) (by k_asm) (by k_mem) (by kl_some) (by k_upd) (by tb_rel) (by tb_rel) ?_))) | ((show wpAny _ _ (call (Value.builtin "list.pop") _) _ _ _); k_dflt (refine' m_pop (by k_asm) (by k_asm) (by k_upd) (by tb_rel) ?_))); intro hw Fw Nw; (try simp only [List.cons_append, List.nil_append] at Nw); (try k_sweep)))) | ((show wpAny _ _ (setItem (Value.ref _) (Value.int _ _) _) _ _ _); k_here; k_dflt (refine' m_set (by k_asm) (by k_asm) (by k_upd) (by tb_rel) (by tb_rel) (by tb_rel) ?_); intro hw Fw Nw; (try simp only [List.cons_append, List.nil_append] at Nw); (try k_sweep)) | ((show WhlIf _ _ _); (first | (refine WhlIf.yes (decide_eq_true (by tb_rel)) ?_) | (refine WhlIf.no (decide_eq_false (by tb_rel)) ?_))) | ((first | show wpAny _ _ (exec (Stmt.For (PySem.Expr.Name _ _) (PySem.Expr.Name _ _) _ _ _) _) _ _ _ | show wpAny _ _ (exec (Stmt.For (PySem.Expr.Name _ _) (PySem.Expr.Subscript _ _ _) _ _ _) _) _ _ _); k_here; (rename Fr _ _ _ _ => Fw'); (with_unfolding_all refine' For_invVF Fw' (by exact rfl) (by exact rfl) ?_); k_whole) | ((show wpAny _ _ (pyIter (Value.ref _)) _ _ _); k_here; (rename Fr _ _ _ _ => Fw'); (rename News _ _ _ _ => Nw'); (first | (with_unfolding_all refine iter_listUnr (vs := [_]) (by rfl) Fw' Nw' (by k_mem) (by rfl) (by rfl) ?_) | (with_unfolding_all refine iter_listUnr (vs := [_, _]) (by rfl) Fw' Nw' (by k_mem) (by rfl) (by rfl) ?_)); clear Fw'; intro iw lw; (try k_lt lw)) | ((show wpAny _ _ (subscriptTail _ _ (Value.ref _) (Value.int _ _)) _ _ _); k_here; (first | k_dflt (refine' m_getT (by k_asm) (by k_mem) (by decide) (by first | decide | tb_rel) (by rfl) ?_ (by with_unfolding_all rfl)) | k_dflt (refine' m_get (by k_asm) (by k_mem) (by first | decide | tb_rel) (by first | decide | tb_rel) (by first | assumption | rfl) ?_ (by with_unfolding_all rfl) (by intro _; with_unfolding_all rfl)))) | ((show wpAny _ _ (callWith _ (Prod.fst (Value.builtin _, _)) (Prod.snd (_, _ :: _)) (backTo _ (starEach (_ :: _) _)) []) _ _ _); refine callWith_method1 ?_ (by with_unfolding_all rfl) (by with_unfolding_all rfl)) | ((show wpAny _ _ (compareOp _ (Value.str _ _) _) _ _ _); k_here; (first | ((show wpAny _ _ (compareOp CmpOp.Eq (Value.str _ _) (Value.str _ _)) _ _ _); refine m_eqS (by assumption) ?_) | ((show wpAny _ _ (compareOp CmpOp.In (Value.str _ _) (Value.ref _)) _ _ _); (first | k_dflt (refine' m_inT (by k_asm) (by k_mem) (by assumption) ?_) | k_dflt (refine' m_inTop (by k_asm) (by k_asm) (by k_is) (by kde_strs) (by first | assumption | rfl | decide) ?_))))) | ((show wpAny _ _ (binaryOp _ (Value.ref _) _) _ _ _); k_here; (first | ((show wpAny _ _ (binaryOp Operator.Add (Value.ref _) (Value.ref _)) _ _ _); k_dflt (refine' m_add (by k_asm) (by k_asm) (by k_mem) (by k_mem) (by tb_rel) (by tb_rel) ?_)) | ((show wpAny _ _ (binaryOp Operator.Mult (Value.ref _) (Value.int _ _)) _ _ _); k_dflt (refine' m_mul (by k_asm) (by k_asm) (by k_mem) (by rfl) (by omega) ?_))); intro Dw hw Fw Nw lw; (try k_lt lw); (try k_sweep))) | ((with_reducible show UnrEnd _ _ _ _ _ _ _); (rename Fr _ _ _ _ => uF); (rename News _ _ _ _ => uN); k_dflt (apply unr_off uF uN (by k_mem)); (· repeat (first | exact off_nil | (apply off_all; tbn_find) | apply off_eq | (apply off_ne; · k_ne))); refine ⟨by k_mem, ?_⟩) | walk1 | (dsimp only; walk1) | (leave1; (try dsimp only))))
          rename News _ _ _ _ => kN
          rename Fr _ _ _ _ => kF
          refine law_end [_, _, _, _] (by assumption) ?hX kF (by rfl) (by rfl) (by rfl) kN ?hN
          case hX => repeat (first | exact True.intro | (refine And.intro (by (try dsimp only); omega) ?_))
          case hN => exact node_cho (by k_mem) (by k_mem) (by k_mem) (by k_mem) hN
        case done =>
          clear aF aN aR
          intro S kk a Ta h tk u hS hSr hoT hN F' N'
          (try dsimp only)
          repeat' ((fail_if_success (with_reducible show wpAny _ _ (call (Value.ref 112) _) _ _ _)); (first | (k_unfold; (try dsimp only)) | (k_end; wrow_close) | (with_reducible first | ((show wpAny _ _ (call (Value.builtin _) _) _ _ _); k_here; (first | ((show wpAny _ _ (call (Value.builtin "len") _) _ _ _); (first | k_dflt (refine' m_lenL (by k_asm) (by k_mem) (by first | (show _ = (0 : Int); rfl) | (show _ = (1 : Int); rfl) | (show _ = (2 : Int); rfl) | (show _ = (3 : Int); rfl) | (show _ = (4 : Int); rfl)) (by decide) ?_) | k_dflt (refine' m_len (by k_asm) (by k_mem) (by tb_rel) ?_))) | ((first | ((show wpAny _ _ (call (Value.builtin "list.append") _) _ _ _); k_dflt (refine' m_append (by k_asm) (by k_asm) (by first | assumption | k_upd) (by tb_rel) ?_)) | ((show wpAny _ _ (call (Value.builtin "list.extend") _) _ _ _); (first | k_dflt (refine' m_extend_nil (by k_asm) (by k_asm) (by k_mem) (by k_upd) (by tb_rel) ?_) | k_dflt (refine' m_extend (by k_asm) (by k_asm) (by k_mem) (by kl_some) (by k_upd) (by tb_rel) (by tb_rel) ?_))) | ((show wpAny _ _ (call (Value.builtin "list.pop") _) _ _ _); k_dflt (refine' m_pop (by k_asm) (by k_asm) (by k_upd) (by tb_rel) ?_))); intro hw Fw Nw; (try simp only [List.cons_append, List.nil_append] at Nw); (try k_sweep)))) | ((show wpAny _ _ (setItem (Value.ref _) (Value.int _ _) _) _ _ _); k_here; k_dflt (refine' m_set (by k_asm) (by k_asm) (by k_upd) (by tb_rel) (by tb_rel) (by tb_rel) ?_); intro hw Fw Nw; (try simp only [List.cons_append, List.nil_append] at Nw); (try k_sweep)) | ((show WhlIf _ _ _); (first | (refine WhlIf.yes (decide_eq_true (by tb_rel)) ?_) | (refine WhlIf.no (decide_eq_false (by tb_rel)) ?_))) | ((first | show wpAny _ _ (exec (Stmt.For (PySem.Expr.Name _ _) (PySem.Expr.Name _ _) _ _ _) _) _ _ _ | show wpAny _ _ (exec (Stmt.For (PySem.Expr.Name _ _) (PySem.Expr.Subscript _ _ _) _ _ _) _) _ _ _); k_here; (rename Fr _ _ _ _ => Fw'); (with_unfolding_all refine' For_invVF Fw' (by exact rfl) (by exact rfl) ?_); k_whole) | ((show wpAny _ _ (pyIter (Value.ref _)) _ _ _); k_here; (rename Fr _ _ _ _ => Fw'); (rename News _ _ _ _ => Nw'); (first | (with_unfolding_all refine iter_listUnr (vs := [_]) (by rfl) Fw' Nw' (by k_mem) (by rfl) (by rfl) ?_) | (with_unfolding_all refine iter_listUnr (vs := [_, _]) (by rfl) Fw' Nw' (by k_mem) (by rfl) (by rfl) ?_)); clear Fw'; intro iw lw; (try k_lt lw)) | ((show wpAny _ _ (subscriptTail _ _ (Value.ref _) (Value.int _ _)) _ _ _); k_here; (first | k_dflt (refine' m_getT (by k_asm) (by k_mem) (by decide) (by first | decide | tb_rel) (by rfl) ?_ (by with_unfolding_all rfl)) | k_dflt (refine' m_get (by k_asm) (by k_mem) (by first | decide | tb_rel) (by first | decide | tb_rel) (by first | assumption | rfl) ?_ (by with_unfolding_all rfl) (by intro _; with_unfolding_all rfl)))) | ((show wpAny _ _ (callWith _ (Prod.fst (Value.builtin _, _)) (Prod.snd (_, _ :: _)) (backTo _ (starEach (_ :: _) _)) []) _ _ _); refine callWith_method1 ?_ (by with_unfolding_all rfl) (by with_unfolding_all rfl)) | ((show wpAny _ _ (compareOp _ (Value.str _ _) _) _ _ _); k_here; (first | ((show wpAny _ _ (compareOp CmpOp.Eq (Value.str _ _) (Value.str _ _)) _ _ _); refine m_eqS (by assumption) ?_) | ((show wpAny _ _ (compareOp CmpOp.In (Value.str _ _) (Value.ref _)) _ _ _); (first | k_dflt (refine' m_inT (by k_asm) (by k_mem) (by assumption) ?_) | k_dflt (refine' m_inTop (by k_asm) (by k_asm) (by k_is) (by kde_strs) (by first | assumption | rfl | decide) ?_))))) | ((show wpAny _ _ (binaryOp _ (Value.ref _) _) _ _ _); k_here; (first | ((show wpAny _ _ (binaryOp Operator.Add (Value.ref _) (Value.ref _)) _ _ _); k_dflt (refine' m_add (by k_asm) (by k_asm) (by k_mem) (by k_mem) (by tb_rel) (by tb_rel) ?_)) | ((show wpAny _ _ (binaryOp Operator.Mult (Value.ref _) (Value.int _ _)) _ _ _); k_dflt (refine' m_mul (by k_asm) (by k_asm) (by k_mem) (by rfl) (by omega) ?_))); intro Dw hw Fw Nw lw; (try k_lt lw); (try k_sweep))) | ((with_reducible show UnrEnd _ _ _ _ _ _ _); (rename Fr _ _ _ _ => uF); (rename News _ _ _ _ => uN); k_dflt (apply unr_off uF uN (by k_mem)); (· repeat (first | exact off_nil | (apply off_all; tbn_find) | apply off_eq | (apply off_ne; · k_ne))); refine ⟨by k_mem, ?_⟩) | walk1 | (dsimp only; walk1) | (leave1; (try dsimp only))))
          rename News _ _ _ _ => cN
          rename Fr _ _ _ _ => cF
          refine cp _ (choN S.length) a _ (hN.mono fun p hp => .tail _ (.tail _ hp)) (by rw [choN_depth]; omega) (straight_all _) _ _ _ _ _ _ _ _ _ _ _ _ _ _ _ _ _ _ (by assumption) cF (by k_asm) cN (by assumption) (by rfl) ?_
          clear cF cN
          rintro _ T' h' tk' F' N' ⟨ao, vs, no, rfl, hTT, hao, hO⟩
          (try dsimp only)
          replace N' := news_four (C := (_, _)) N' hao (hTT _ (.head _)) (hTT _ (.tail _ (.head _)))
          rw [hS] at hO
          repeat' ((fail_if_success (with_reducible show wpAny _ _ (call (Value.ref _) _) _ _ _)); (first | (k_unfold; (try dsimp only)) | (k_end; wrow_close) | (with_reducible first | ((show wpAny _ _ (call (Value.builtin _) _) _ _ _); k_here; (first | ((show wpAny _ _ (call (Value.builtin "len") _) _ _ _); (first | k_dflt (refine' m_lenL (by k_asm) (by k_mem) (by first | (show _ = (0 : Int); rfl) | (show _ = (1 : Int); rfl) | (show _ = (2 : Int); rfl) | (show _ = (3 : Int); rfl) | (show _ = (4 : Int); rfl)) (by decide) ?_) | k_dflt (refine' m_len (by k_asm) (by k_mem) (by tb_rel) ?_))) | ((first | ((show wpAny _ _ (call (Value.builtin "list.append") _) _ _ _); k_dflt (refine' m_append (by k_asm) (by k_asm) (by first | assumption | k_upd) (by tb_rel) ?_)) | ((show wpAny _ _ (call (Value.builtin "list.extend") _) _ _ _); (first | k_dflt (refine' m_extend_nil (by k_asm) (by k_asm) (by k_mem) (by k_upd) (by tb_rel) ?_) | k_dflt (refine' m_extend (by k_asm) (by k_asm) (by k_mem) (by kl_some) (by k_upd) (by tb_rel) (by tb_rel) ?_))) | ((show wpAny _ _ (call (Value.builtin "list.pop") _) _ _ _); k_dflt (refine' m_pop (by k_asm) (by k_asm) (by k_upd) (by tb_rel) ?_))); intro hw Fw Nw; (try simp only [List.cons_append, List.nil_append] at Nw); (try k_sweep)))) | ((show wpAny _ _ (setItem (Value.ref _) (Value.int _ _) _) _ _ _); k_here; k_dflt (refine' m_set (by k_asm) (by k_asm) (by k_upd) (by tb_rel) (by tb_rel) (by tb_rel) ?_); intro hw Fw Nw; (try simp only [List.cons_append, List.nil_append] at Nw); (try k_sweep)) | ((show WhlIf _ _ _); (first | (refine WhlIf.yes (decide_eq_true (by tb_rel)) ?_) | (refine WhlIf.no (decide_eq_false (by tb_rel)) ?_))) | ((first | show wpAny _ _ (exec (Stmt.For (PySem.Expr.Name _ _) (PySem.Expr.Name _ _) _ _ _) _) _ _ _ | show wpAny _ _ (exec (Stmt.For (PySem.Expr.Name _ _) (PySem.Expr.Subscript _ _ _) _ _ _) _) _ _ _); k_here; (rename Fr _ _ _ _ => Fw'); (with_unfolding_all refine' For_invVF Fw' (by exact rfl) (by exact rfl) ?_); k_whole) | ((show wpAny _ _ (pyIter (Value.ref _)) _ _ _); k_here; (rename Fr _ _ _ _ => Fw'); (rename News _ _ _ _ => Nw'); (first | (with_unfolding_all refine iter_listUnr (vs := [_]) (by rfl) Fw' Nw' (by k_mem) (by rfl) (by rfl) ?_) | (with_unfolding_all refine iter_listUnr (vs := [_, _]) (by rfl) Fw' Nw' (by k_mem) (by rfl) (by rfl) ?_)); clear Fw'; intro iw lw; (try k_lt lw)) | ((show wpAny _ _ (subscriptTail _ _ (Value.ref _) (Value.int _ _)) _ _ _); k_here; (first | k_dflt (refine' m_getT (by k_asm) (by k_mem) (by decide) (by first | decide | tb_rel) (by rfl) ?_ (by with_unfolding_all rfl)) | k_dflt (refine' m_get (by k_asm) (by k_mem) (by first | decide | tb_rel) (by first | decide | tb_rel) (by first | assumption | rfl) ?_ (by with_unfolding_all rfl) (by intro _; with_unfolding_all rfl)))) | ((show wpAny _ _ (callWith _ (Prod.fst (Value.builtin _, _)) (Prod.snd (_, _ :: _)) (backTo _ (starEach (_ :: _) _)) []) _ _ _); refine callWith_method1 ?_ (by with_unfolding_all rfl) (by with_unfolding_all rfl)) | ((show wpAny _ _ (compareOp _ (Value.str _ _) _) _ _ _); k_here; (first | ((show wpAny _ _ (compareOp CmpOp.Eq (Value.str _ _) (Value.str _ _)) _ _ _); refine m_eqS (by assumption) ?_) | ((show wpAny _ _ (compareOp CmpOp.In (Value.str _ _) (Value.ref _)) _ _ _); (first | k_dflt (refine' m_inT (by k_asm) (by k_mem) (by assumption) ?_) | k_dflt (refine' m_inTop (by k_asm) (by k_asm) (by k_is) (by kde_strs) (by first | assumption | rfl | decide) ?_))))) | ((show wpAny _ _ (binaryOp _ (Value.ref _) _) _ _ _); k_here; (first | ((show wpAny _ _ (binaryOp Operator.Add (Value.ref _) (Value.ref _)) _ _ _); k_dflt (refine' m_add (by k_asm) (by k_asm) (by k_mem) (by k_mem) (by tb_rel) (by tb_rel) ?_)) | ((show wpAny _ _ (binaryOp Operator.Mult (Value.ref _) (Value.int _ _)) _ _ _); k_dflt (refine' m_mul (by k_asm) (by k_asm) (by k_mem) (by rfl) (by omega) ?_))); intro Dw hw Fw Nw lw; (try k_lt lw); (try k_sweep))) | ((with_reducible show UnrEnd _ _ _ _ _ _ _); (rename Fr _ _ _ _ => uF); (rename News _ _ _ _ => uN); k_dflt (apply unr_off uF uN (by k_mem)); (· repeat (first | exact off_nil | (apply off_all; tbn_find) | apply off_eq | (apply off_ne; · k_ne))); refine ⟨by k_mem, ?_⟩) | walk1 | (dsimp only; walk1) | (leave1; (try dsimp only))))
          rename News _ _ _ _ => dN
          rename Fr _ _ _ _ => dF
          refine ccho _ n _ _ hn2 _ _ _ _ _ _ _ _ _ _ _ _ _ _ _ _ _ _ (by assumption) dF (by k_asm) dN (by assumption) (by rfl) ?_
          clear dF dN
          rintro _ T2 h2 tk2 F' N' ⟨a2, ws, n2, rfl, hT2, ha2, hO2⟩
          (try dsimp only)
          replace N' := news_four (C := (_, _)) N' ha2 (hT2 _ (.head _)) (hT2 _ (.tail _ (.tail _ (.head _))))
          have hwl : ws.length ≤ 5000 := by rw [hO2.length]; have := code_length (choN n) 0; rw [choN_depth] at this; omega
          repeat' ((fail_if_success (with_reducible show wpAny _ _ (compareOp _ _ _) _ _ _)); (first | (k_unfold; (try dsimp only)) | (k_end; wrow_close) | (with_reducible first | ((show wpAny _ _ (call (Value.builtin _) _) _ _ _); k_here; (first | ((show wpAny _ _ (call (Value.builtin "len") _) _ _ _); (first | k_dflt (refine' m_lenL (by k_asm) (by k_mem) (by first | (show _ = (0 : Int); rfl) | (show _ = (1 : Int); rfl) | (show _ = (2 : Int); rfl) | (show _ = (3 : Int); rfl) | (show _ = (4 : Int); rfl)) (by decide) ?_) | k_dflt (refine' m_len (by k_asm) (by k_mem) (by tb_rel) ?_))) | ((first | ((show wpAny _ _ (call (Value.builtin "list.append") _) _ _ _); k_dflt (refine' m_append (by k_asm) (by k_asm) (by first | assumption | k_upd) (by tb_rel) ?_)) | ((show wpAny _ _ (call (Value.builtin "list.extend") _) _ _ _); (first | k_dflt (refine' m_extend_nil (by k_asm) (by k_asm) (by k_mem) (by k_upd) (by tb_rel) ?_) | k_dflt (refine' m_extend (by k_asm) (by k_asm) (by k_mem) (by kl_some) (by k_upd) (by tb_rel) (by tb_rel) ?_))) | ((show wpAny _ _ (call (Value.builtin "list.pop") _) _ _ _); k_dflt (refine' m_pop (by k_asm) (by k_asm) (by k_upd) (by tb_rel) ?_))); intro hw Fw Nw; (try simp only [List.cons_append, List.nil_append] at Nw); (try k_sweep)))) | ((show wpAny _ _ (setItem (Value.ref _) (Value.int _ _) _) _ _ _); k_here; k_dflt (refine' m_set (by k_asm) (by k_asm) (by k_upd) (by tb_rel) (by tb_rel) (by tb_rel) ?_); intro hw Fw Nw; (try simp only [List.cons_append, List.nil_append] at Nw); (try k_sweep)) | ((show WhlIf _ _ _); (first | (refine WhlIf.yes (decide_eq_true (by tb_rel)) ?_) | (refine WhlIf.no (decide_eq_false (by tb_rel)) ?_))) | ((first | show wpAny _ _ (exec (Stmt.For (PySem.Expr.Name _ _) (PySem.Expr.Name _ _) _ _ _) _) _ _ _ | show wpAny _ _ (exec (Stmt.For (PySem.Expr.Name _ _) (PySem.Expr.Subscript _ _ _) _ _ _) _) _ _ _); k_here; (rename Fr _ _ _ _ => Fw'); (with_unfolding_all refine' For_invVF Fw' (by exact rfl) (by exact rfl) ?_); k_whole) | ((show wpAny _ _ (pyIter (Value.ref _)) _ _ _); k_here; (rename Fr _ _ _ _ => Fw'); (rename News _ _ _ _ => Nw'); (first | (with_unfolding_all refine iter_listUnr (vs := [_]) (by rfl) Fw' Nw' (by k_mem) (by rfl) (by rfl) ?_) | (with_unfolding_all refine iter_listUnr (vs := [_, _]) (by rfl) Fw' Nw' (by k_mem) (by rfl) (by rfl) ?_)); clear Fw'; intro iw lw; (try k_lt lw)) | ((show wpAny _ _ (subscriptTail _ _ (Value.ref _) (Value.int _ _)) _ _ _); k_here; (first | k_dflt (refine' m_getT (by k_asm) (by k_mem) (by decide) (by first | decide | tb_rel) (by rfl) ?_ (by with_unfolding_all rfl)) | k_dflt (refine' m_get (by k_asm) (by k_mem) (by first | decide | tb_rel) (by first | decide | tb_rel) (by first | assumption | rfl) ?_ (by with_unfolding_all rfl) (by intro _; with_unfolding_all rfl)))) | ((show wpAny _ _ (callWith _ (Prod.fst (Value.builtin _, _)) (Prod.snd (_, _ :: _)) (backTo _ (starEach (_ :: _) _)) []) _ _ _); refine callWith_method1 ?_ (by with_unfolding_all rfl) (by with_unfolding_all rfl)) | ((show wpAny _ _ (compareOp _ (Value.str _ _) _) _ _ _); k_here; (first | ((show wpAny _ _ (compareOp CmpOp.Eq (Value.str _ _) (Value.str _ _)) _ _ _); refine m_eqS (by assumption) ?_) | ((show wpAny _ _ (compareOp CmpOp.In (Value.str _ _) (Value.ref _)) _ _ _); (first | k_dflt (refine' m_inT (by k_asm) (by k_mem) (by assumption) ?_) | k_dflt (refine' m_inTop (by k_asm) (by k_asm) (by k_is) (by kde_strs) (by first | assumption | rfl | decide) ?_))))) | ((show wpAny _ _ (binaryOp _ (Value.ref _) _) _ _ _); k_here; (first | ((show wpAny _ _ (binaryOp Operator.Add (Value.ref _) (Value.ref _)) _ _ _); k_dflt (refine' m_add (by k_asm) (by k_asm) (by k_mem) (by k_mem) (by tb_rel) (by tb_rel) ?_)) | ((show wpAny _ _ (binaryOp Operator.Mult (Value.ref _) (Value.int _ _)) _ _ _); k_dflt (refine' m_mul (by k_asm) (by k_asm) (by k_mem) (by rfl) (by omega) ?_))); intro Dw hw Fw Nw lw; (try k_lt lw); (try k_sweep))) | ((with_reducible show UnrEnd _ _ _ _ _ _ _); (rename Fr _ _ _ _ => uF); (rename News _ _ _ _ => uN); k_dflt (apply unr_off uF uN (by k_mem)); (· repeat (first | exact off_nil | (apply off_all; tbn_find) | apply off_eq | (apply off_ne; · k_ne))); refine ⟨by k_mem, ?_⟩) | walk1 | (dsimp only; walk1) | (leave1; (try dsimp only))))
          rename News _ _ _ _ => eN
          refine eq_ords (os := code (choN n) 0 ++ [.done]) eN (by k_mem) (by k_mem) (hO.mono fun p hp => ?m1) ((hO2.mono fun p hp => ?m2).append (.one (.done (by k_mem)))) ?hu ?_
          case m1 => repeat (first | exact hT2 _ (.tail _ (.tail _ (.tail _ hp))) | apply List.Mem.tail)
          case m2 => repeat (first | exact hp | apply List.Mem.tail)
          case hu => ktr_units
          (try dsimp only)
          rename Fr _ _ _ _ => eF2
          exact hend _ _ _ eF2
      · refine law_iterC (n := n) (fun S => latN .len1 S) aC (by rfl) aR (by rfl) hn2 aF aN (by rfl) (by rfl) (by rfl) (by k_mem) (by k_mem) (by k_mem) ?hoff (by rfl) ?turn ?done
        case hoff => constructor <;> (refine neN ?_; omega)
        case turn =>
          clear aF aN aR
          intro i t S kk a Ta Tb h tk u hi hS hTT hoT hN F' N'
          refine use_first first (Nat.lt_of_lt_of_le hi hn2) hS hoT F' N' ?_
          clear F' N'
          intro x kk' h' tk' u' F' N'
          (try dsimp only)
          repeat' ((fail_if_success (with_reducible show LawPost _ _ _ _ _ _ _ _ _ _ _ _)); (fail_if_success (with_reducible show wpAny _ _ (subscriptTail _ _ (Value.ref _) (Value.int _ _)) _ _ _)); (first | (k_unfold; (try dsimp only)) | (k_end; wrow_close) | (with_reducible first | ((show wpAny _ _ (call (Value.builtin _) _) _ _ _); k_here; (first | ((show wpAny _ _ (call (Value.builtin "len") _) _ _ _); (first | k_dflt (refine' m_lenL (by k_asm) (by k_mem) (by first | (show _ = (0 : Int); rfl) | (show _ = (1 : Int); rfl) | (show _ = (2 : Int); rfl) | (show _ = (3 : Int); rfl) | (show _ = (4 : Int); rfl)) (by decide) ?_) | k_dflt (refine' m_len (by k_asm) (by k_mem) (by tb_rel) ?_))) | ((first | ((show wpAny _ _ (call (Value.builtin "list.append") _) _ _ _); k_dflt (refine' m_append (by k_asm) (by k_asm) (by first | assumption | k_upd) (by tb_rel) ?_)) | ((show wpAny _ _ (call (Value.builtin "list.extend") _) _ _ _); (first | k_dflt (refine' m_extend_nil (by k_asm) (by k_asm) (by k_mem) (by k_upd) (by tb_rel) ?_) | k_dflt (refine' m_extend (by k_asm) (by k_asm) (by k_mem) (by kl_some) (by k_upd) (by tb_rel) (by tb_rel) ?_))) | ((show wpAny _ _ (call (Value.builtin "list.pop") _) _ _ _); k_dflt (refine' m_pop (by k_asm) (by k_asm) (by k_upd) (by tb_rel) ?_))); intro hw Fw Nw; (try simp only [List.cons_append, List.nil_append] at Nw); (try k_sweep)))) | ((show wpAny _ _ (setItem (Value.ref _) (Value.int _ _) _) _ _ _); k_here; k_dflt (refine' m_set (by k_asm) (by k_asm) (by k_upd) (by tb_rel) (by tb_rel) (by tb_rel) ?_); intro hw Fw Nw; (try simp only [List.cons_append, List.nil_append] at Nw); (try k_sweep)) | ((show WhlIf _ _ _); (first | (refine WhlIf.yes (decide_eq_true (by tb_rel)) ?_) | (refine WhlIf.no (decide_eq_false (by tb_rel)) ?_))) | ((first | show wpAny _ _ (exec (Stmt.For (PySem.Expr.Name _ _) (PySem.Expr.Name _ _) _ _ _) _) _ _ _ | show wpAny _ _ (exec (Stmt.For (PySem.Expr.Name _ _) (PySem.Expr.Subscript _ _ _) _ _ _) _) _ _ _); k_here; (rename Fr _ _ _ _ => Fw'); (with_unfolding_all refine' For_invVF Fw' (by exact rfl) (by exact rfl) ?_); k_whole) | ((show wpAny _ _ (pyIter (Value.ref _)) _ _ _); k_here; (rename Fr _ _ _ _ => Fw'); (rename News _ _ _ _ => Nw'); (first | (with_unfolding_all refine iter_listUnr (vs := [_]) (by rfl) Fw' Nw' (by k_mem) (by rfl) (by rfl) ?_) | (with_unfolding_all refine iter_listUnr (vs := [_, _]) (by rfl) Fw' Nw' (by k_mem) (by rfl) (by rfl) ?_)); clear Fw'; intro iw lw; (try k_lt lw)) | ((show wpAny _ _ (subscriptTail _ _ (Value.ref _) (Value.int _ _)) _ _ _); k_here; (first | k_dflt (refine' m_getT (by k_asm) (by k_mem) (by decide) (by first | decide | tb_rel) (by rfl) ?_ (by with_unfolding_all rfl)) | k_dflt (refine' m_get (by k_asm) (by k_mem) (by first | decide | tb_rel) (by first | decide | tb_rel) (by first | assumption | rfl) ?_ (by with_unfolding_all rfl) (by intro _; with_unfolding_all rfl)))) | ((show wpAny _ _ (callWith _ (Prod.fst (Value.builtin _, _)) (Prod.snd (_, _ :: _)) (backTo _ (starEach (_ :: _) _)) []) _ _ _); refine callWith_method1 ?_ (by with_unfolding_all rfl) (by with_unfolding_all rfl)) | ((show wpAny _ _ (compareOp _ (Value.str _ _) _) _ _ _); k_here; (first | ((show wpAny _ _ (compareOp CmpOp.Eq (Value.str _ _) (Value.str _ _)) _ _ _); refine m_eqS (by assumption) ?_) | ((show wpAny _ _ (compareOp CmpOp.In (Value.str _ _) (Value.ref _)) _ _ _); (first | k_dflt (refine' m_inT (by k_asm) (by k_mem) (by assumption) ?_) | k_dflt (refine' m_inTop (by k_asm) (by k_asm) (by k_is) (by kde_strs) (by first | assumption | rfl | decide) ?_))))) | ((show wpAny _ _ (binaryOp _ (Value.ref _) _) _ _ _); k_here; (first | ((show wpAny _ _ (binaryOp Operator.Add (Value.ref _) (Value.ref _)) _ _ _); k_dflt (refine' m_add (by k_asm) (by k_asm) (by k_mem) (by k_mem) (by tb_rel) (by tb_rel) ?_)) | ((show wpAny _ _ (binaryOp Operator.Mult (Value.ref _) (Value.int _ _)) _ _ _); k_dflt (refine' m_mul (by k_asm) (by k_asm) (by k_mem) (by rfl) (by omega) ?_))); intro Dw hw Fw Nw lw; (try k_lt lw); (try k_sweep))) | ((with_reducible show UnrEnd _ _ _ _ _ _ _); (rename Fr _ _ _ _ => uF); (rename News _ _ _ _ => uN); k_dflt (apply unr_off uF uN (by k_mem)); (· repeat (first | exact off_nil | (apply off_all; tbn_find) | apply off_eq | (apply off_ne; · k_ne))); refine ⟨by k_mem, ?_⟩) | walk1 | (dsimp only; walk1) | (leave1; (try dsimp only))))
          rename News _ _ _ _ => mN
          refine kba_turn (value' := PySem.Expr.Name (PySem.Str.ofString "_") ⟨0, 0, 0, 0⟩) (fun _ => rfl) ?_
          refine m_get mN (by k_mem) (by decide) (by decide) (by rfl) ?_ (by with_unfolding_all rfl) (by intro _; with_unfolding_all rfl)
          (try dsimp only)
          repeat' ((fail_if_success (with_reducible show LawPost _ _ _ _ _ _ _ _ _ _ _ _)); (fail_if_success (with_reducible show wpAny _ _ (subscriptTail _ _ (Value.ref _) (Value.int _ _)) _ _ _)); (first | (k_unfold; (try dsimp only)) | (k_end; wrow_close) | (with_reducible first | ((show wpAny _ _ (call (Value.builtin _) _) _ _ _); k_here; (first | ((show wpAny _ _ (call (Value.builtin "len") _) _ _ _); (first | k_dflt (refine' m_lenL (by k_asm) (by k_mem) (by first | (show _ = (0 : Int); rfl) | (show _ = (1 : Int); rfl) | (show _ = (2 : Int); rfl) | (show _ = (3 : Int); rfl) | (show _ = (4 : Int); rfl)) (by decide) ?_) | k_dflt (refine' m_len (by k_asm) (by k_mem) (by tb_rel) ?_))) | ((first | ((show wpAny _ _ (call (Value.builtin "list.append") _) _ _ _); k_dflt (refine' m_append (by k_asm) (by k_asm) (by first | assumption | k_upd) (by tb_rel) ?_)) | ((show wpAny _ _ (call (Value.builtin "list.extend") _) _ _ _); (first | k_dflt (refine' m_extend_nil (by k_asm) (by k_asm) (by k_mem) (by k_upd) (by tb_rel) ?_) | k_dflt (refine' m_extend (by k_asm) (by k_asm) (by k_mem) (by kl_some) (by k_upd) (by tb_rel) (by tb_rel) ?_))) | ((show wpAny _ _ (call (Value.builtin "list.pop") _) _ _ _); k_dflt (refine' m_pop (by k_asm) (by k_asm) (by k_upd) (by tb_rel) ?_))); intro hw Fw Nw; (try simp only [List.cons_append, List.nil_append] at Nw); (try k_sweep)))) | ((show wpAny _ _ (setItem (Value.ref _) (Value.int _ _) _) _ _ _); k_here; k_dflt (refine' m_set (by k_asm) (by k_asm) (by k_upd) (by tb_rel) (by tb_rel) (by tb_rel) ?_); intro hw Fw Nw; (try simp only [List.cons_append, List.nil_append] at Nw); (try k_sweep)) | ((show WhlIf _ _ _); (first | (refine WhlIf.yes (decide_eq_true (by tb_rel)) ?_) | (refine WhlIf.no (decide_eq_false (by tb_rel)) ?_))) | ((first | show wpAny _ _ (exec (Stmt.For (PySem.Expr.Name _ _) (PySem.Expr.Name _ _) _ _ _) _) _ _ _ | show wpAny _ _ (exec (Stmt.For (PySem.Expr.Name _ _) (PySem.Expr.Subscript _ _ _) _ _ _) _) _ _ _); k_here; (rename Fr _ _ _ _ => Fw'); (with_unfolding_all refine' For_invVF Fw' (by exact rfl) (by exact rfl) ?_); k_whole) | ((show wpAny _ _ (pyIter (Value.ref _)) _ _ _); k_here; (rename Fr _ _ _ _ => Fw'); (rename News _ _ _ _ => Nw'); (first | (with_unfolding_all refine iter_listUnr (vs := [_]) (by rfl) Fw' Nw' (by k_mem) (by rfl) (by rfl) ?_) | (with_unfolding_all refine iter_listUnr (vs := [_, _]) (by rfl) Fw' Nw' (by k_mem) (by rfl) (by rfl) ?_)); clear Fw'; intro iw lw; (try k_lt lw)) | ((show wpAny _ _ (subscriptTail _ _ (Value.ref _) (Value.int _ _)) _ _ _); k_here; (first | k_dflt (refine' m_getT (by k_asm) (by k_mem) (by decide) (by first | decide | tb_rel) (by rfl) ?_ (by with_unfolding_all rfl)) | k_dflt (refine' m_get (by k_asm) (by k_mem) (by first | decide | tb_rel) (by first | decide | tb_rel) (by first | assumption | rfl) ?_ (by with_unfolding_all rfl) (by intro _; with_unfolding_all rfl)))) | ((show wpAny _ _ (callWith _ (Prod.fst (Value.builtin _, _)) (Prod.snd (_, _ :: _)) (backTo _ (starEach (_ :: _) _)) []) _ _ _); refine callWith_method1 ?_ (by with_unfolding_all rfl) (by with_unfolding_all rfl)) | ((show wpAny _ _ (compareOp _ (Value.str _ _) _) _ _ _); k_here; (first | ((show wpAny _ _ (compareOp CmpOp.Eq (Value.str _ _) (Value.str _ _)) _ _ _); refine m_eqS (by assumption) ?_) | ((show wpAny _ _ (compareOp CmpOp.In (Value.str _ _) (Value.ref _)) _ _ _); (first | k_dflt (refine' m_inT (by k_asm) (by k_mem) (by assumption) ?_) | k_dflt (refine' m_inTop (by k_asm) (by k_asm) (by k_is) (by kde_strs) (by first | assumption | rfl | decide) ?_))))) | ((show wpAny _ _ (binaryOp _ (Value.ref _) _) _ _ _); k_here; (first | ((show wpAny _ _ (binaryOp Operator.Add (Value.ref _) (Value.ref _)) _ _ _); k_dflt (refine' m_add (by k_asm) (by k_asm) (by k_mem) (by k_mem) (by tb_rel) (by tb_rel) ?_)) | ((show wpAny _ _ (binaryOp Operator.Mult (Value.ref _) (Value.int _ _)) _ _ _); k_dflt (refine' m_mul (by k_asm) (by k_asm) (by k_mem) (by rfl) (by omega) ?_))); intro Dw hw Fw Nw lw; (try k_lt lw); (try k_sweep))) | ((with_reducible show UnrEnd _ _ _ _ _ _ _); (rename Fr _ _ _ _ => uF); (rename News _ _ _ _ => uN); k_dflt (apply unr_off uF uN (by k_mem)); (· repeat (first | exact off_nil | (apply off_all; tbn_find) | apply off_eq | (apply off_ne; · k_ne))); refine ⟨by k_mem, ?_⟩) | walk1 | (dsimp only; walk1) | (leave1; (try dsimp only))))
          rename News _ _ _ _ => mN2
          refine m_get mN2 (by k_mem) (by omega) (by omega) (get_last hS) ?_ (by with_unfolding_all rfl) (by intro _; with_unfolding_all rfl)
          (try dsimp only)
          repeat' ((fail_if_success (with_reducible show LawPost _ _ _ _ _ _ _ _ _ _ _ _)); (first | (k_unfold; (try dsimp only)) | (k_end; wrow_close) | (with_reducible first | ((show wpAny _ _ (call (Value.builtin _) _) _ _ _); k_here; (first | ((show wpAny _ _ (call (Value.builtin "len") _) _ _ _); (first | k_dflt (refine' m_lenL (by k_asm) (by k_mem) (by first | (show _ = (0 : Int); rfl) | (show _ = (1 : Int); rfl) | (show _ = (2 : Int); rfl) | (show _ = (3 : Int); rfl) | (show _ = (4 : Int); rfl)) (by decide) ?_) | k_dflt (refine' m_len (by k_asm) (by k_mem) (by tb_rel) ?_))) | ((first | ((show wpAny _ _ (call (Value.builtin "list.append") _) _ _ _); k_dflt (refine' m_append (by k_asm) (by k_asm) (by first | assumption | k_upd) (by tb_rel) ?_)) | ((show wpAny _ _ (call (Value.builtin "list.extend") _) _ _ _); (first | k_dflt (refine' m_extend_nil (by k_asm) (by k_asm) (by k_mem) (by k_upd) (by tb_rel) ?_) | k_dflt (refine' m_extend (by k_asm) (by k_asm) (by k_mem) (by kl_some) (by k_upd) (by tb_rel) (by tb_rel) ?_))) | ((show wpAny _ _ (call (Value.builtin "list.pop") _) _ _ _); k_dflt (refine' m_pop (by k_asm) (by k_asm) (by k_upd) (by tb_rel) ?_))); intro hw Fw Nw; (try simp only [List.cons_append, List.nil_append] at Nw); (try k_sweep)))) | ((show wpAny _ _ (setItem (Value.ref _) (Value.int _ _) _) _ _ _); k_here; k_dflt (refine' m_set (by k_asm) (by k_asm) (by k_upd) (by tb_rel) (by tb_rel) (by tb_rel) ?_); intro hw Fw Nw; (try simp only [List.cons_append, List.nil_append] at Nw); (try k_sweep)) | ((show WhlIf _ _ _); (first | (refine WhlIf.yes (decide_eq_true (by tb_rel)) ?_) | (refine WhlIf.no (decide_eq_false (by tb_rel)) ?_))) | ((first | show wpAny _ _ (exec (Stmt.For (PySem.Expr.Name _ _) (PySem.Expr.Name _ _) _ _ _) _) _ _ _ | show wpAny _ _ (exec (Stmt.For (PySem.Expr.Name _ _) (PySem.Expr.Subscript _ _ _) _ _ _) _) _ _ _); k_here; (rename Fr _ _ _ _ => Fw'); (with_unfolding_all refine' For_invVF Fw' (by exact rfl) (by exact rfl) ?_); k_whole) | ((show wpAny _ _ (pyIter (Value.ref _)) _ _ _); k_here; (rename Fr _ _ _ _ => Fw'); (rename News _ _ _ _ => Nw'); (first | (with_unfolding_all refine iter_listUnr (vs := [_]) (by rfl) Fw' Nw' (by k_mem) (by rfl) (by rfl) ?_) | (with_unfolding_all refine iter_listUnr (vs := [_, _]) (by rfl) Fw' Nw' (by k_mem) (by rfl) (by rfl) ?_)); clear Fw'; intro iw lw; (try k_lt lw)) | ((show wpAny _ _ (subscriptTail _ _ (Value.ref _) (Value.int _ _)) _ _ _); k_here; (first | k_dflt (refine' m_getT (by k_asm) (by k_mem) (by decide) (by first | decide | tb_rel) (by rfl) ?_ (by with_unfolding_all rfl)) | k_dflt (refine' m_get (by k_asm) (by k_mem) (by first | decide | tb_rel) (by first | decide | tb_rel) (by first | assumption | rfl) ?_ (by with_unfolding_all rfl) (by intro _; with_unfolding_all rfl)))) | ((show wpAny _ _ (callWith _ (Prod.fst (Value.builtin _, _)) (Prod.snd (_, _ :: _)) (backTo _ (starEach (_ :: _) _)) []) _ _ _); refine callWith_method1 ?_ (by with_unfolding_all rfl) (by with_unfolding_all rfl)) | ((show wpAny _ _ (compareOp _ (Value.str _ _) _) _ _ _); k_here; (first | ((show wpAny _ _ (compareOp CmpOp.Eq (Value.str _ _) (Value.str _ _)) _ _ _); refine m_eqS (by assumption) ?_) | ((show wpAny _ _ (compareOp CmpOp.In (Value.str _ _) (Value.ref _)) _ _ _); (first | k_dflt (refine' m_inT (by k_asm) (by k_mem) (by assumption) ?_) | k_dflt (refine' m_inTop (by k_asm) (by k_asm) (by k_is) (by kde_strs) (by first | assumption | rfl | decide) ?_))))) | ((show wpAny _ _ (binaryOp _ (Value.ref _) _) _ _ _); k_here; (first | ((show wpAny _ _ (binaryOp Operator.Add (Value.ref _) (Value.ref _)) _ _ _); k_dflt (refine' m_add (by k_asm) (by k_asm) (by k_mem) (by k_mem) (by tb_rel) (by tb_rel) ?_)) | ((show wpAny _ _ (binaryOp Operator.Mult (Value.ref _) (Value.int _ _)) _ _ _); k_dflt (refine' m_mul (by k_asm) (by k_asm) (by k_mem) (by rfl) (by omega) ?_))); intro Dw hw Fw Nw lw; (try k_lt lw); (try k_sweep))) | ((with_reducible show UnrEnd _ _ _ _ _ _ _); (rename Fr _ _ _ _ => uF); (rename News _ _ _ _ => uN); k_dflt (apply unr_off uF uN (by k_mem)); (· repeat (first | exact off_nil | (apply off_all; tbn_find) | apply off_eq | (apply off_ne; · k_ne))); refine ⟨by k_mem, ?_⟩) | walk1 | (dsimp only; walk1) | (leave1; (try dsimp only))))
          rename News _ _ _ _ => kN
          rename Fr _ _ _ _ => kF
          refine law_end [_, _] (by assumption) ?hX kF (by rfl) (by rfl) (by rfl) kN ?hN
          case hX => repeat (first | exact True.intro | (refine And.intro (by (try dsimp only); omega) ?_))
          case hN => exact node_lat (by k_mem) hN
        case done =>
          clear aF aN aR
          intro S kk a Ta h tk u hS hSr hoT hN F' N'
          (try dsimp only)
          repeat' ((fail_if_success (with_reducible show wpAny _ _ (call (Value.ref 112) _) _ _ _)); (first | (k_unfold; (try dsimp only)) | (k_end; wrow_close) | (with_reducible first | ((show wpAny _ _ (call (Value.builtin _) _) _ _ _); k_here; (first | ((show wpAny _ _ (call (Value.builtin "len") _) _ _ _); (first | k_dflt (refine' m_lenL (by k_asm) (by k_mem) (by first | (show _ = (0 : Int); rfl) | (show _ = (1 : Int); rfl) | (show _ = (2 : Int); rfl) | (show _ = (3 : Int); rfl) | (show _ = (4 : Int); rfl)) (by decide) ?_) | k_dflt (refine' m_len (by k_asm) (by k_mem) (by tb_rel) ?_))) | ((first | ((show wpAny _ _ (call (Value.builtin "list.append") _) _ _ _); k_dflt (refine' m_append (by k_asm) (by k_asm) (by first | assumption | k_upd) (by tb_rel) ?_)) | ((show wpAny _ _ (call (Value.builtin "list.extend") _) _ _ _); (first | k_dflt (refine' m_extend_nil (by k_asm) (by k_asm) (by k_mem) (by k_upd) (by tb_rel) ?_) | k_dflt (refine' m_extend (by k_asm) (by k_asm) (by k_mem) (by kl_some) (by k_upd) (by tb_rel) (by tb_rel) ?_))) | ((show wpAny _ _ (call (Value.builtin "list.pop") _) _ _ _); k_dflt (refine' m_pop (by k_asm) (by k_asm) (by k_upd) (by tb_rel) ?_))); intro hw Fw Nw; (try simp only [List.cons_append, List.nil_append] at Nw); (try k_sweep)))) | ((show wpAny _ _ (setItem (Value.ref _) (Value.int _ _) _) _ _ _); k_here; k_dflt (refine' m_set (by k_asm) (by k_asm) (by k_upd) (by tb_rel) (by tb_rel) (by tb_rel) ?_); intro hw Fw Nw; (try simp only [List.cons_append, List.nil_append] at Nw); (try k_sweep)) | ((show WhlIf _ _ _); (first | (refine WhlIf.yes (decide_eq_true (by tb_rel)) ?_) | (refine WhlIf.no (decide_eq_false (by tb_rel)) ?_))) | ((first | show wpAny _ _ (exec (Stmt.For (PySem.Expr.Name _ _) (PySem.Expr.Name _ _) _ _ _) _) _ _ _ | show wpAny _ _ (exec (Stmt.For (PySem.Expr.Name _ _) (PySem.Expr.Subscript _ _ _) _ _ _) _) _ _ _); k_here; (rename Fr _ _ _ _ => Fw'); (with_unfolding_all refine' For_invVF Fw' (by exact rfl) (by exact rfl) ?_); k_whole) | ((show wpAny _ _ (pyIter (Value.ref _)) _ _ _); k_here; (rename Fr _ _ _ _ => Fw'); (rename News _ _ _ _ => Nw'); (first | (with_unfolding_all refine iter_listUnr (vs := [_]) (by rfl) Fw' Nw' (by k_mem) (by rfl) (by rfl) ?_) | (with_unfolding_all refine iter_listUnr (vs := [_, _]) (by rfl) Fw' Nw' (by k_mem) (by rfl) (by rfl) ?_)); clear Fw'; intro iw lw; (try k_lt lw)) | ((show wpAny _ _ (subscriptTail _ _ (Value.ref _) (Value.int _ _)) _ _ _); k_here; (first | k_dflt (refine' m_getT (by k_asm) (by k_mem) (by decide) (by first | decide | tb_rel) (by rfl) ?_ (by with_unfolding_all rfl)) | k_dflt (refine' m_get (by k_asm) (by k_mem) (by first | decide | tb_rel) (by first | decide | tb_rel) (by first | assumption | rfl) ?_ (by with_unfolding_all rfl) (by intro _; with_unfolding_all rfl)))) | ((show wpAny _ _ (callWith _ (Prod.fst (Value.builtin _, _)) (Prod.snd (_, _ :: _)) (backTo _ (starEach (_ :: _) _)) []) _ _ _); refine callWith_method1 ?_ (by with_unfolding_all rfl) (by with_unfolding_all rfl)) | ((show wpAny _ _ (compareOp _ (Value.str _ _) _) _ _ _); k_here; (first | ((show wpAny _ _ (compareOp CmpOp.Eq (Value.str _ _) (Value.str _ _)) _ _ _); refine m_eqS (by assumption) ?_) | ((show wpAny _ _ (compareOp CmpOp.In (Value.str _ _) (Value.ref _)) _ _ _); (first | k_dflt (refine' m_inT (by k_asm) (by k_mem) (by assumption) ?_) | k_dflt (refine' m_inTop (by k_asm) (by k_asm) (by k_is) (by kde_strs) (by first | assumption | rfl | decide) ?_))))) | ((show wpAny _ _ (binaryOp _ (Value.ref _) _) _ _ _); k_here; (first | ((show wpAny _ _ (binaryOp Operator.Add (Value.ref _) (Value.ref _)) _ _ _); k_dflt (refine' m_add (by k_asm) (by k_asm) (by k_mem) (by k_mem) (by tb_rel) (by tb_rel) ?_)) | ((show wpAny _ _ (binaryOp Operator.Mult (Value.ref _) (Value.int _ _)) _ _ _); k_dflt (refine' m_mul (by k_asm) (by k_asm) (by k_mem) (by rfl) (by omega) ?_))); intro Dw hw Fw Nw lw; (try k_lt lw); (try k_sweep))) | ((with_reducible show UnrEnd _ _ _ _ _ _ _); (rename Fr _ _ _ _ => uF); (rename News _ _ _ _ => uN); k_dflt (apply unr_off uF uN (by k_mem)); (· repeat (first | exact off_nil | (apply off_all; tbn_find) | apply off_eq | (apply off_ne; · k_ne))); refine ⟨by k_mem, ?_⟩) | walk1 | (dsimp only; walk1) | (leave1; (try dsimp only))))
          rename News _ _ _ _ => cN
          rename Fr _ _ _ _ => cF
          refine cp _ (latN .len1 S) a _ (hN.mono fun p hp => .tail _ (.tail _ hp)) (by rw [latN_depth, hS]; simp only [Nd.depth]; omega) (straight_all _) _ _ _ _ _ _ _ _ _ _ _ _ _ _ _ _ _ _ (by assumption) cF (by k_asm) cN (by assumption) (by rfl) ?_
          clear cF cN
          rintro _ T' h' tk' F' N' ⟨ao, vs, no, rfl, hTT, hao, hO⟩
          (try dsimp only)
          replace N' := news_four (C := (_, _)) N' hao (hTT _ (.head _)) (hTT _ (.tail _ (.head _)))
          rw [lat_spec hS] at hO
          repeat' ((fail_if_success (with_reducible show wpAny _ _ (exec (Stmt.Assign _ (PySem.Expr.ListComp _ _ _ _) _) _) _ _ _)); (first | (k_unfold; (try dsimp only)) | (k_end; wrow_close) | (with_reducible first | ((show wpAny _ _ (call (Value.builtin _) _) _ _ _); k_here; (first | ((show wpAny _ _ (call (Value.builtin "len") _) _ _ _); (first | k_dflt (refine' m_lenL (by k_asm) (by k_mem) (by first | (show _ = (0 : Int); rfl) | (show _ = (1 : Int); rfl) | (show _ = (2 : Int); rfl) | (show _ = (3 : Int); rfl) | (show _ = (4 : Int); rfl)) (by decide) ?_) | k_dflt (refine' m_len (by k_asm) (by k_mem) (by tb_rel) ?_))) | ((first | ((show wpAny _ _ (call (Value.builtin "list.append") _) _ _ _); k_dflt (refine' m_append (by k_asm) (by k_asm) (by first | assumption | k_upd) (by tb_rel) ?_)) | ((show wpAny _ _ (call (Value.builtin "list.extend") _) _ _ _); (first | k_dflt (refine' m_extend_nil (by k_asm) (by k_asm) (by k_mem) (by k_upd) (by tb_rel) ?_) | k_dflt (refine' m_extend (by k_asm) (by k_asm) (by k_mem) (by kl_some) (by k_upd) (by tb_rel) (by tb_rel) ?_))) | ((show wpAny _ _ (call (Value.builtin "list.pop") _) _ _ _); k_dflt (refine' m_pop (by k_asm) (by k_asm) (by k_upd) (by tb_rel) ?_))); intro hw Fw Nw; (try simp only [List.cons_append, List.nil_append] at Nw); (try k_sweep)))) | ((show wpAny _ _ (setItem (Value.ref _) (Value.int _ _) _) _ _ _); k_here; k_dflt (refine' m_set (by k_asm) (by k_asm) (by k_upd) (by tb_rel) (by tb_rel) (by tb_rel) ?_); intro hw Fw Nw; (try simp only [List.cons_append, List.nil_append] at Nw); (try k_sweep)) | ((show WhlIf _ _ _); (first | (refine WhlIf.yes (decide_eq_true (by tb_rel)) ?_) | (refine WhlIf.no (decide_eq_false (by tb_rel)) ?_))) | ((first | show wpAny _ _ (exec (Stmt.For (PySem.Expr.Name _ _) (PySem.Expr.Name _ _) _ _ _) _) _ _ _ | show wpAny _ _ (exec (Stmt.For (PySem.Expr.Name _ _) (PySem.Expr.Subscript _ _ _) _ _ _) _) _ _ _); k_here; (rename Fr _ _ _ _ => Fw'); (with_unfolding_all refine' For_invVF Fw' (by exact rfl) (by exact rfl) ?_); k_whole) | ((show wpAny _ _ (pyIter (Value.ref _)) _ _ _); k_here; (rename Fr _ _ _ _ => Fw'); (rename News _ _ _ _ => Nw'); (first | (with_unfolding_all refine iter_listUnr (vs := [_]) (by rfl) Fw' Nw' (by k_mem) (by rfl) (by rfl) ?_) | (with_unfolding_all refine iter_listUnr (vs := [_, _]) (by rfl) Fw' Nw' (by k_mem) (by rfl) (by rfl) ?_)); clear Fw'; intro iw lw; (try k_lt lw)) | ((show wpAny _ _ (subscriptTail _ _ (Value.ref _) (Value.int _ _)) _ _ _); k_here; (first | k_dflt (refine' m_getT (by k_asm) (by k_mem) (by decide) (by first | decide | tb_rel) (by rfl) ?_ (by with_unfolding_all rfl)) | k_dflt (refine' m_get (by k_asm) (by k_mem) (by first | decide | tb_rel) (by first | decide | tb_rel) (by first | assumption | rfl) ?_ (by with_unfolding_all rfl) (by intro _; with_unfolding_all rfl)))) | ((show wpAny _ _ (callWith _ (Prod.fst (Value.builtin _, _)) (Prod.snd (_, _ :: _)) (backTo _ (starEach (_ :: _) _)) []) _ _ _); refine callWith_method1 ?_ (by with_unfolding_all rfl) (by with_unfolding_all rfl)) | ((show wpAny _ _ (compareOp _ (Value.str _ _) _) _ _ _); k_here; (first | ((show wpAny _ _ (compareOp CmpOp.Eq (Value.str _ _) (Value.str _ _)) _ _ _); refine m_eqS (by assumption) ?_) | ((show wpAny _ _ (compareOp CmpOp.In (Value.str _ _) (Value.ref _)) _ _ _); (first | k_dflt (refine' m_inT (by k_asm) (by k_mem) (by assumption) ?_) | k_dflt (refine' m_inTop (by k_asm) (by k_asm) (by k_is) (by kde_strs) (by first | assumption | rfl | decide) ?_))))) | ((show wpAny _ _ (binaryOp _ (Value.ref _) _) _ _ _); k_here; (first | ((show wpAny _ _ (binaryOp Operator.Add (Value.ref _) (Value.ref _)) _ _ _); k_dflt (refine' m_add (by k_asm) (by k_asm) (by k_mem) (by k_mem) (by tb_rel) (by tb_rel) ?_)) | ((show wpAny _ _ (binaryOp Operator.Mult (Value.ref _) (Value.int _ _)) _ _ _); k_dflt (refine' m_mul (by k_asm) (by k_asm) (by k_mem) (by rfl) (by omega) ?_))); intro Dw hw Fw Nw lw; (try k_lt lw); (try k_sweep))) | ((with_reducible show UnrEnd _ _ _ _ _ _ _); (rename Fr _ _ _ _ => uF); (rename News _ _ _ _ => uN); k_dflt (apply unr_off uF uN (by k_mem)); (· repeat (first | exact off_nil | (apply off_all; tbn_find) | apply off_eq | (apply off_ne; · k_ne))); refine ⟨by k_mem, ?_⟩) | walk1 | (dsimp only; walk1) | (leave1; (try dsimp only))))
          rename Fr _ _ _ _ => gF
          k_dflt (refine Assign_ListComp_obj gF (fun v o => ∃ t1, o = tupO [sv "name" t1, v]) ?hsw ?hh (by with_unfolding_all rfl) ?hcell ?hkind ?hnames ?hx ?hy ?hp ?h ?hs)
          case hsw => with_unfolding_all rfl
          case hh => exact rfl
          case hcell => decide
          case hkind => with_unfolding_all rfl
          case hnames => decide
          case hx => with_unfolding_all rfl
          case hy => with_unfolding_all rfl
          case hp => with_unfolding_all rfl
          case hs => intro _; with_unfolding_all rfl
          case h =>
            repeat' ((fail_if_success (with_reducible show ∃ news ax vs nn, _)); (first | (k_unfold; (try dsimp only)) | (k_end; wrow_close) | (with_reducible first | ((show wpAny _ _ (call (Value.builtin _) _) _ _ _); k_here; (first | ((show wpAny _ _ (call (Value.builtin "len") _) _ _ _); (first | k_dflt (refine' m_lenL (by k_asm) (by k_mem) (by first | (show _ = (0 : Int); rfl) | (show _ = (1 : Int); rfl) | (show _ = (2 : Int); rfl) | (show _ = (3 : Int); rfl) | (show _ = (4 : Int); rfl)) (by decide) ?_) | k_dflt (refine' m_len (by k_asm) (by k_mem) (by tb_rel) ?_))) | ((first | ((show wpAny _ _ (call (Value.builtin "list.append") _) _ _ _); k_dflt (refine' m_append (by k_asm) (by k_asm) (by first | assumption | k_upd) (by tb_rel) ?_)) | ((show wpAny _ _ (call (Value.builtin "list.extend") _) _ _ _); (first | k_dflt (refine' m_extend_nil (by k_asm) (by k_asm) (by k_mem) (by k_upd) (by tb_rel) ?_) | k_dflt (refine' m_extend (by k_asm) (by k_asm) (by k_mem) (by kl_some) (by k_upd) (by tb_rel) (by tb_rel) ?_))) | ((show wpAny _ _ (call (Value.builtin "list.pop") _) _ _ _); k_dflt (refine' m_pop (by k_asm) (by k_asm) (by k_upd) (by tb_rel) ?_))); intro hw Fw Nw; (try simp only [List.cons_append, List.nil_append] at Nw); (try k_sweep)))) | ((show wpAny _ _ (setItem (Value.ref _) (Value.int _ _) _) _ _ _); k_here; k_dflt (refine' m_set (by k_asm) (by k_asm) (by k_upd) (by tb_rel) (by tb_rel) (by tb_rel) ?_); intro hw Fw Nw; (try simp only [List.cons_append, List.nil_append] at Nw); (try k_sweep)) | ((show WhlIf _ _ _); (first | (refine WhlIf.yes (decide_eq_true (by tb_rel)) ?_) | (refine WhlIf.no (decide_eq_false (by tb_rel)) ?_))) | ((first | show wpAny _ _ (exec (Stmt.For (PySem.Expr.Name _ _) (PySem.Expr.Name _ _) _ _ _) _) _ _ _ | show wpAny _ _ (exec (Stmt.For (PySem.Expr.Name _ _) (PySem.Expr.Subscript _ _ _) _ _ _) _) _ _ _); k_here; (rename Fr _ _ _ _ => Fw'); (with_unfolding_all refine' For_invVF Fw' (by exact rfl) (by exact rfl) ?_); k_whole) | ((show wpAny _ _ (pyIter (Value.ref _)) _ _ _); k_here; (rename Fr _ _ _ _ => Fw'); (rename News _ _ _ _ => Nw'); (first | (with_unfolding_all refine iter_listUnr (vs := [_]) (by rfl) Fw' Nw' (by k_mem) (by rfl) (by rfl) ?_) | (with_unfolding_all refine iter_listUnr (vs := [_, _]) (by rfl) Fw' Nw' (by k_mem) (by rfl) (by rfl) ?_)); clear Fw'; intro iw lw; (try k_lt lw)) | ((show wpAny _ _ (subscriptTail _ _ (Value.ref _) (Value.int _ _)) _ _ _); k_here; (first | k_dflt (refine' m_getT (by k_asm) (by k_mem) (by decide) (by first | decide | tb_rel) (by rfl) ?_ (by with_unfolding_all rfl)) | k_dflt (refine' m_get (by k_asm) (by k_mem) (by first | decide | tb_rel) (by first | decide | tb_rel) (by first | assumption | rfl) ?_ (by with_unfolding_all rfl) (by intro _; with_unfolding_all rfl)))) | ((show wpAny _ _ (callWith _ (Prod.fst (Value.builtin _, _)) (Prod.snd (_, _ :: _)) (backTo _ (starEach (_ :: _) _)) []) _ _ _); refine callWith_method1 ?_ (by with_unfolding_all rfl) (by with_unfolding_all rfl)) | ((show wpAny _ _ (compareOp _ (Value.str _ _) _) _ _ _); k_here; (first | ((show wpAny _ _ (compareOp CmpOp.Eq (Value.str _ _) (Value.str _ _)) _ _ _); refine m_eqS (by assumption) ?_) | ((show wpAny _ _ (compareOp CmpOp.In (Value.str _ _) (Value.ref _)) _ _ _); (first | k_dflt (refine' m_inT (by k_asm) (by k_mem) (by assumption) ?_) | k_dflt (refine' m_inTop (by k_asm) (by k_asm) (by k_is) (by kde_strs) (by first | assumption | rfl | decide) ?_))))) | ((show wpAny _ _ (binaryOp _ (Value.ref _) _) _ _ _); k_here; (first | ((show wpAny _ _ (binaryOp Operator.Add (Value.ref _) (Value.ref _)) _ _ _); k_dflt (refine' m_add (by k_asm) (by k_asm) (by k_mem) (by k_mem) (by tb_rel) (by tb_rel) ?_)) | ((show wpAny _ _ (binaryOp Operator.Mult (Value.ref _) (Value.int _ _)) _ _ _); k_dflt (refine' m_mul (by k_asm) (by k_asm) (by k_mem) (by rfl) (by omega) ?_))); intro Dw hw Fw Nw lw; (try k_lt lw); (try k_sweep))) | ((with_reducible show UnrEnd _ _ _ _ _ _ _); (rename Fr _ _ _ _ => uF); (rename News _ _ _ _ => uN); k_dflt (apply unr_off uF uN (by k_mem)); (· repeat (first | exact off_nil | (apply off_all; tbn_find) | apply off_eq | (apply off_ne; · k_ne))); refine ⟨by k_mem, ?_⟩) | walk1 | (dsimp only; walk1) | (leave1; (try dsimp only))))
            rename Fr _ _ _ _ => kF
            rename News _ _ _ _ => kN
            refine' ⟨_, _, S, _, rfl, ?m1, ?len, kF, kN, ?elt, ?aft⟩
            case m1 => k_mem
            case len => omega
            case elt =>
              intro C v s₂ m₂ E' hC hv hn hm hk
              have F' := comp_fr kF hC hn hm hk
              have N' := comp_news kN hC hk
              repeat' ((fail_if_success (with_reducible show wpAny _ _ (newList _) _ _ _)); (first | (k_unfold; (try dsimp only)) | (k_end; wrow_close) | (with_reducible first | ((show wpAny _ _ (call (Value.builtin _) _) _ _ _); k_here; (first | ((show wpAny _ _ (call (Value.builtin "len") _) _ _ _); (first | k_dflt (refine' m_lenL (by k_asm) (by k_mem) (by first | (show _ = (0 : Int); rfl) | (show _ = (1 : Int); rfl) | (show _ = (2 : Int); rfl) | (show _ = (3 : Int); rfl) | (show _ = (4 : Int); rfl)) (by decide) ?_) | k_dflt (refine' m_len (by k_asm) (by k_mem) (by tb_rel) ?_))) | ((first | ((show wpAny _ _ (call (Value.builtin "list.append") _) _ _ _); k_dflt (refine' m_append (by k_asm) (by k_asm) (by first | assumption | k_upd) (by tb_rel) ?_)) | ((show wpAny _ _ (call (Value.builtin "list.extend") _) _ _ _); (first | k_dflt (refine' m_extend_nil (by k_asm) (by k_asm) (by k_mem) (by k_upd) (by tb_rel) ?_) | k_dflt (refine' m_extend (by k_asm) (by k_asm) (by k_mem) (by kl_some) (by k_upd) (by tb_rel) (by tb_rel) ?_))) | ((show wpAny _ _ (call (Value.builtin "list.pop") _) _ _ _); k_dflt (refine' m_pop (by k_asm) (by k_asm) (by k_upd) (by tb_rel) ?_))); intro hw Fw Nw; (try simp only [List.cons_append, List.nil_append] at Nw); (try k_sweep)))) | ((show wpAny _ _ (setItem (Value.ref _) (Value.int _ _) _) _ _ _); k_here; k_dflt (refine' m_set (by k_asm) (by k_asm) (by k_upd) (by tb_rel) (by tb_rel) (by tb_rel) ?_); intro hw Fw Nw; (try simp only [List.cons_append, List.nil_append] at Nw); (try k_sweep)) | ((show WhlIf _ _ _); (first | (refine WhlIf.yes (decide_eq_true (by tb_rel)) ?_) | (refine WhlIf.no (decide_eq_false (by tb_rel)) ?_))) | ((first | show wpAny _ _ (exec (Stmt.For (PySem.Expr.Name _ _) (PySem.Expr.Name _ _) _ _ _) _) _ _ _ | show wpAny _ _ (exec (Stmt.For (PySem.Expr.Name _ _) (PySem.Expr.Subscript _ _ _) _ _ _) _) _ _ _); k_here; (rename Fr _ _ _ _ => Fw'); (with_unfolding_all refine' For_invVF Fw' (by exact rfl) (by exact rfl) ?_); k_whole) | ((show wpAny _ _ (pyIter (Value.ref _)) _ _ _); k_here; (rename Fr _ _ _ _ => Fw'); (rename News _ _ _ _ => Nw'); (first | (with_unfolding_all refine iter_listUnr (vs := [_]) (by rfl) Fw' Nw' (by k_mem) (by rfl) (by rfl) ?_) | (with_unfolding_all refine iter_listUnr (vs := [_, _]) (by rfl) Fw' Nw' (by k_mem) (by rfl) (by rfl) ?_)); clear Fw'; intro iw lw; (try k_lt lw)) | ((show wpAny _ _ (subscriptTail _ _ (Value.ref _) (Value.int _ _)) _ _ _); k_here; (first | k_dflt (refine' m_getT (by k_asm) (by k_mem) (by decide) (by first | decide | tb_rel) (by rfl) ?_ (by with_unfolding_all rfl)) | k_dflt (refine' m_get (by k_asm) (by k_mem) (by first | decide | tb_rel) (by first | decide | tb_rel) (by first | assumption | rfl) ?_ (by with_unfolding_all rfl) (by intro _; with_unfolding_all rfl)))) | ((show wpAny _ _ (callWith _ (Prod.fst (Value.builtin _, _)) (Prod.snd (_, _ :: _)) (backTo _ (starEach (_ :: _) _)) []) _ _ _); refine callWith_method1 ?_ (by with_unfolding_all rfl) (by with_unfolding_all rfl)) | ((show wpAny _ _ (compareOp _ (Value.str _ _) _) _ _ _); k_here; (first | ((show wpAny _ _ (compareOp CmpOp.Eq (Value.str _ _) (Value.str _ _)) _ _ _); refine m_eqS (by assumption) ?_) | ((show wpAny _ _ (compareOp CmpOp.In (Value.str _ _) (Value.ref _)) _ _ _); (first | k_dflt (refine' m_inT (by k_asm) (by k_mem) (by assumption) ?_) | k_dflt (refine' m_inTop (by k_asm) (by k_asm) (by k_is) (by kde_strs) (by first | assumption | rfl | decide) ?_))))) | ((show wpAny _ _ (binaryOp _ (Value.ref _) _) _ _ _); k_here; (first | ((show wpAny _ _ (binaryOp Operator.Add (Value.ref _) (Value.ref _)) _ _ _); k_dflt (refine' m_add (by k_asm) (by k_asm) (by k_mem) (by k_mem) (by tb_rel) (by tb_rel) ?_)) | ((show wpAny _ _ (binaryOp Operator.Mult (Value.ref _) (Value.int _ _)) _ _ _); k_dflt (refine' m_mul (by k_asm) (by k_asm) (by k_mem) (by rfl) (by omega) ?_))); intro Dw hw Fw Nw lw; (try k_lt lw); (try k_sweep))) | ((with_reducible show UnrEnd _ _ _ _ _ _ _); (rename Fr _ _ _ _ => uF); (rename News _ _ _ _ => uN); k_dflt (apply unr_off uF uN (by k_mem)); (· repeat (first | exact off_nil | (apply off_all; tbn_find) | apply off_eq | (apply off_ne; · k_ne))); refine ⟨by k_mem, ?_⟩) | walk1 | (dsimp only; walk1) | (leave1; (try dsimp only))))
              refine newList_at (s₂ := s₂) F' N' ⟨_, _, rfl, fun _ _ e => e⟩ (by show 2 ≤ 1000; decide) fun D h' F3 N3 K3 => ?_
              (try dsimp only)
              repeat' ((fail_if_success (with_reducible show wpAny _ _ (subscriptTail _ _ (Value.ref _) (Value.int _ _)) _ _ _)); (first | (k_unfold; (try dsimp only)) | (k_end; wrow_close) | (with_reducible first | ((show wpAny _ _ (call (Value.builtin _) _) _ _ _); k_here; (first | ((show wpAny _ _ (call (Value.builtin "len") _) _ _ _); (first | k_dflt (refine' m_lenL (by k_asm) (by k_mem) (by first | (show _ = (0 : Int); rfl) | (show _ = (1 : Int); rfl) | (show _ = (2 : Int); rfl) | (show _ = (3 : Int); rfl) | (show _ = (4 : Int); rfl)) (by decide) ?_) | k_dflt (refine' m_len (by k_asm) (by k_mem) (by tb_rel) ?_))) | ((first | ((show wpAny _ _ (call (Value.builtin "list.append") _) _ _ _); k_dflt (refine' m_append (by k_asm) (by k_asm) (by first | assumption | k_upd) (by tb_rel) ?_)) | ((show wpAny _ _ (call (Value.builtin "list.extend") _) _ _ _); (first | k_dflt (refine' m_extend_nil (by k_asm) (by k_asm) (by k_mem) (by k_upd) (by tb_rel) ?_) | k_dflt (refine' m_extend (by k_asm) (by k_asm) (by k_mem) (by kl_some) (by k_upd) (by tb_rel) (by tb_rel) ?_))) | ((show wpAny _ _ (call (Value.builtin "list.pop") _) _ _ _); k_dflt (refine' m_pop (by k_asm) (by k_asm) (by k_upd) (by tb_rel) ?_))); intro hw Fw Nw; (try simp only [List.cons_append, List.nil_append] at Nw); (try k_sweep)))) | ((show wpAny _ _ (setItem (Value.ref _) (Value.int _ _) _) _ _ _); k_here; k_dflt (refine' m_set (by k_asm) (by k_asm) (by k_upd) (by tb_rel) (by tb_rel) (by tb_rel) ?_); intro hw Fw Nw; (try simp only [List.cons_append, List.nil_append] at Nw); (try k_sweep)) | ((show WhlIf _ _ _); (first | (refine WhlIf.yes (decide_eq_true (by tb_rel)) ?_) | (refine WhlIf.no (decide_eq_false (by tb_rel)) ?_))) | ((first | show wpAny _ _ (exec (Stmt.For (PySem.Expr.Name _ _) (PySem.Expr.Name _ _) _ _ _) _) _ _ _ | show wpAny _ _ (exec (Stmt.For (PySem.Expr.Name _ _) (PySem.Expr.Subscript _ _ _) _ _ _) _) _ _ _); k_here; (rename Fr _ _ _ _ => Fw'); (with_unfolding_all refine' For_invVF Fw' (by exact rfl) (by exact rfl) ?_); k_whole) | ((show wpAny _ _ (pyIter (Value.ref _)) _ _ _); k_here; (rename Fr _ _ _ _ => Fw'); (rename News _ _ _ _ => Nw'); (first | (with_unfolding_all refine iter_listUnr (vs := [_]) (by rfl) Fw' Nw' (by k_mem) (by rfl) (by rfl) ?_) | (with_unfolding_all refine iter_listUnr (vs := [_, _]) (by rfl) Fw' Nw' (by k_mem) (by rfl) (by rfl) ?_)); clear Fw'; intro iw lw; (try k_lt lw)) | ((show wpAny _ _ (subscriptTail _ _ (Value.ref _) (Value.int _ _)) _ _ _); k_here; (first | k_dflt (refine' m_getT (by k_asm) (by k_mem) (by decide) (by first | decide | tb_rel) (by rfl) ?_ (by with_unfolding_all rfl)) | k_dflt (refine' m_get (by k_asm) (by k_mem) (by first | decide | tb_rel) (by first | decide | tb_rel) (by first | assumption | rfl) ?_ (by with_unfolding_all rfl) (by intro _; with_unfolding_all rfl)))) | ((show wpAny _ _ (callWith _ (Prod.fst (Value.builtin _, _)) (Prod.snd (_, _ :: _)) (backTo _ (starEach (_ :: _) _)) []) _ _ _); refine callWith_method1 ?_ (by with_unfolding_all rfl) (by with_unfolding_all rfl)) | ((show wpAny _ _ (compareOp _ (Value.str _ _) _) _ _ _); k_here; (first | ((show wpAny _ _ (compareOp CmpOp.Eq (Value.str _ _) (Value.str _ _)) _ _ _); refine m_eqS (by assumption) ?_) | ((show wpAny _ _ (compareOp CmpOp.In (Value.str _ _) (Value.ref _)) _ _ _); (first | k_dflt (refine' m_inT (by k_asm) (by k_mem) (by assumption) ?_) | k_dflt (refine' m_inTop (by k_asm) (by k_asm) (by k_is) (by kde_strs) (by first | assumption | rfl | decide) ?_))))) | ((show wpAny _ _ (binaryOp _ (Value.ref _) _) _ _ _); k_here; (first | ((show wpAny _ _ (binaryOp Operator.Add (Value.ref _) (Value.ref _)) _ _ _); k_dflt (refine' m_add (by k_asm) (by k_asm) (by k_mem) (by k_mem) (by tb_rel) (by tb_rel) ?_)) | ((show wpAny _ _ (binaryOp Operator.Mult (Value.ref _) (Value.int _ _)) _ _ _); k_dflt (refine' m_mul (by k_asm) (by k_asm) (by k_mem) (by rfl) (by omega) ?_))); intro Dw hw Fw Nw lw; (try k_lt lw); (try k_sweep))) | ((with_reducible show UnrEnd _ _ _ _ _ _ _); (rename Fr _ _ _ _ => uF); (rename News _ _ _ _ => uN); k_dflt (apply unr_off uF uN (by k_mem)); (· repeat (first | exact off_nil | (apply off_all; tbn_find) | apply off_eq | (apply off_ne; · k_ne))); refine ⟨by k_mem, ?_⟩) | walk1 | (dsimp only; walk1) | (leave1; (try dsimp only))))
              refine kba_turn (value' := PySem.Expr.Name (PySem.Str.ofString "_") ⟨0, 0, 0, 0⟩) (fun _ => rfl) ?_
              refine m_get N3 (by k_mem) (by decide) (by decide) (by rfl) ?_ (by with_unfolding_all rfl) (by intro _; with_unfolding_all rfl)
              (try dsimp only)
              repeat' ((fail_if_success (with_reducible show wpAny _ _ (newTuple _) _ _ _)); (first | (k_unfold; (try dsimp only)) | (k_end; wrow_close) | (with_reducible first | ((show wpAny _ _ (call (Value.builtin _) _) _ _ _); k_here; (first | ((show wpAny _ _ (call (Value.builtin "len") _) _ _ _); (first | k_dflt (refine' m_lenL (by k_asm) (by k_mem) (by first | (show _ = (0 : Int); rfl) | (show _ = (1 : Int); rfl) | (show _ = (2 : Int); rfl) | (show _ = (3 : Int); rfl) | (show _ = (4 : Int); rfl)) (by decide) ?_) | k_dflt (refine' m_len (by k_asm) (by k_mem) (by tb_rel) ?_))) | ((first | ((show wpAny _ _ (call (Value.builtin "list.append") _) _ _ _); k_dflt (refine' m_append (by k_asm) (by k_asm) (by first | assumption | k_upd) (by tb_rel) ?_)) | ((show wpAny _ _ (call (Value.builtin "list.extend") _) _ _ _); (first | k_dflt (refine' m_extend_nil (by k_asm) (by k_asm) (by k_mem) (by k_upd) (by tb_rel) ?_) | k_dflt (refine' m_extend (by k_asm) (by k_asm) (by k_mem) (by kl_some) (by k_upd) (by tb_rel) (by tb_rel) ?_))) | ((show wpAny _ _ (call (Value.builtin "list.pop") _) _ _ _); k_dflt (refine' m_pop (by k_asm) (by k_asm) (by k_upd) (by tb_rel) ?_))); intro hw Fw Nw; (try simp only [List.cons_append, List.nil_append] at Nw); (try k_sweep)))) | ((show wpAny _ _ (setItem (Value.ref _) (Value.int _ _) _) _ _ _); k_here; k_dflt (refine' m_set (by k_asm) (by k_asm) (by k_upd) (by tb_rel) (by tb_rel) (by tb_rel) ?_); intro hw Fw Nw; (try simp only [List.cons_append, List.nil_append] at Nw); (try k_sweep)) | ((show WhlIf _ _ _); (first | (refine WhlIf.yes (decide_eq_true (by tb_rel)) ?_) | (refine WhlIf.no (decide_eq_false (by tb_rel)) ?_))) | ((first | show wpAny _ _ (exec (Stmt.For (PySem.Expr.Name _ _) (PySem.Expr.Name _ _) _ _ _) _) _ _ _ | show wpAny _ _ (exec (Stmt.For (PySem.Expr.Name _ _) (PySem.Expr.Subscript _ _ _) _ _ _) _) _ _ _); k_here; (rename Fr _ _ _ _ => Fw'); (with_unfolding_all refine' For_invVF Fw' (by exact rfl) (by exact rfl) ?_); k_whole) | ((show wpAny _ _ (pyIter (Value.ref _)) _ _ _); k_here; (rename Fr _ _ _ _ => Fw'); (rename News _ _ _ _ => Nw'); (first | (with_unfolding_all refine iter_listUnr (vs := [_]) (by rfl) Fw' Nw' (by k_mem) (by rfl) (by rfl) ?_) | (with_unfolding_all refine iter_listUnr (vs := [_, _]) (by rfl) Fw' Nw' (by k_mem) (by rfl) (by rfl) ?_)); clear Fw'; intro iw lw; (try k_lt lw)) | ((show wpAny _ _ (subscriptTail _ _ (Value.ref _) (Value.int _ _)) _ _ _); k_here; (first | k_dflt (refine' m_getT (by k_asm) (by k_mem) (by decide) (by first | decide | tb_rel) (by rfl) ?_ (by with_unfolding_all rfl)) | k_dflt (refine' m_get (by k_asm) (by k_mem) (by first | decide | tb_rel) (by first | decide | tb_rel) (by first | assumption | rfl) ?_ (by with_unfolding_all rfl) (by intro _; with_unfolding_all rfl)))) | ((show wpAny _ _ (callWith _ (Prod.fst (Value.builtin _, _)) (Prod.snd (_, _ :: _)) (backTo _ (starEach (_ :: _) _)) []) _ _ _); refine callWith_method1 ?_ (by with_unfolding_all rfl) (by with_unfolding_all rfl)) | ((show wpAny _ _ (compareOp _ (Value.str _ _) _) _ _ _); k_here; (first | ((show wpAny _ _ (compareOp CmpOp.Eq (Value.str _ _) (Value.str _ _)) _ _ _); refine m_eqS (by assumption) ?_) | ((show wpAny _ _ (compareOp CmpOp.In (Value.str _ _) (Value.ref _)) _ _ _); (first | k_dflt (refine' m_inT (by k_asm) (by k_mem) (by assumption) ?_) | k_dflt (refine' m_inTop (by k_asm) (by k_asm) (by k_is) (by kde_strs) (by first | assumption | rfl | decide) ?_))))) | ((show wpAny _ _ (binaryOp _ (Value.ref _) _) _ _ _); k_here; (first | ((show wpAny _ _ (binaryOp Operator.Add (Value.ref _) (Value.ref _)) _ _ _); k_dflt (refine' m_add (by k_asm) (by k_asm) (by k_mem) (by k_mem) (by tb_rel) (by tb_rel) ?_)) | ((show wpAny _ _ (binaryOp Operator.Mult (Value.ref _) (Value.int _ _)) _ _ _); k_dflt (refine' m_mul (by k_asm) (by k_asm) (by k_mem) (by rfl) (by omega) ?_))); intro Dw hw Fw Nw lw; (try k_lt lw); (try k_sweep))) | ((with_reducible show UnrEnd _ _ _ _ _ _ _); (rename Fr _ _ _ _ => uF); (rename News _ _ _ _ => uN); k_dflt (apply unr_off uF uN (by k_mem)); (· repeat (first | exact off_nil | (apply off_all; tbn_find) | apply off_eq | (apply off_ne; · k_ne))); refine ⟨by k_mem, ?_⟩) | walk1 | (dsimp only; walk1) | (leave1; (try dsimp only))))
              all_goals first
                | exact item_made2 (G := fun v o => ∃ t1, o = tupO [sv "name" t1, v]) (v := v) K3 ⟨_, rfl⟩ (by show 2 ≤ 1000; decide)
                | exact Value.none
                | exact (Str.ofString "")
                | exact ([] : List (Str × Addr))
                | exact (0 : Addr)
            case aft =>
              clear kF kN
              intro D ys objs nn' h' tk F' N' P
              have hys : ys.length = n := by rw [← P.length, hS]
              have hnm := names_in (T := objs) (mk := .name) (fun _ _ _ h => .name h) (fun _ h => h) P
              clear P
              replace N' := news_four (C := (_, _)) N' (.head _) (.tail _ (List.mem_append_right _ (.head _))) (.tail _ (List.mem_append_right _ (.tail _ (.tail _ (.head _)))))
              (try dsimp only)
              repeat' ((fail_if_success (with_reducible show wpAny _ _ (compareOp _ _ _) _ _ _)); (first | (k_unfold; (try dsimp only)) | (k_end; wrow_close) | (with_reducible first | ((show wpAny _ _ (call (Value.builtin _) _) _ _ _); k_here; (first | ((show wpAny _ _ (call (Value.builtin "len") _) _ _ _); (first | k_dflt (refine' m_lenL (by k_asm) (by k_mem) (by first | (show _ = (0 : Int); rfl) | (show _ = (1 : Int); rfl) | (show _ = (2 : Int); rfl) | (show _ = (3 : Int); rfl) | (show _ = (4 : Int); rfl)) (by decide) ?_) | k_dflt (refine' m_len (by k_asm) (by k_mem) (by tb_rel) ?_))) | ((first | ((show wpAny _ _ (call (Value.builtin "list.append") _) _ _ _); k_dflt (refine' m_append (by k_asm) (by k_asm) (by first | assumption | k_upd) (by tb_rel) ?_)) | ((show wpAny _ _ (call (Value.builtin "list.extend") _) _ _ _); (first | k_dflt (refine' m_extend_nil (by k_asm) (by k_asm) (by k_mem) (by k_upd) (by tb_rel) ?_) | k_dflt (refine' m_extend (by k_asm) (by k_asm) (by k_mem) (by kl_some) (by k_upd) (by tb_rel) (by tb_rel) ?_))) | ((show wpAny _ _ (call (Value.builtin "list.pop") _) _ _ _); k_dflt (refine' m_pop (by k_asm) (by k_asm) (by k_upd) (by tb_rel) ?_))); intro hw Fw Nw; (try simp only [List.cons_append, List.nil_append] at Nw); (try k_sweep)))) | ((show wpAny _ _ (setItem (Value.ref _) (Value.int _ _) _) _ _ _); k_here; k_dflt (refine' m_set (by k_asm) (by k_asm) (by k_upd) (by tb_rel) (by tb_rel) (by tb_rel) ?_); intro hw Fw Nw; (try simp only [List.cons_append, List.nil_append] at Nw); (try k_sweep)) | ((show WhlIf _ _ _); (first | (refine WhlIf.yes (decide_eq_true (by tb_rel)) ?_) | (refine WhlIf.no (decide_eq_false (by tb_rel)) ?_))) | ((first | show wpAny _ _ (exec (Stmt.For (PySem.Expr.Name _ _) (PySem.Expr.Name _ _) _ _ _) _) _ _ _ | show wpAny _ _ (exec (Stmt.For (PySem.Expr.Name _ _) (PySem.Expr.Subscript _ _ _) _ _ _) _) _ _ _); k_here; (rename Fr _ _ _ _ => Fw'); (with_unfolding_all refine' For_invVF Fw' (by exact rfl) (by exact rfl) ?_); k_whole) | ((show wpAny _ _ (pyIter (Value.ref _)) _ _ _); k_here; (rename Fr _ _ _ _ => Fw'); (rename News _ _ _ _ => Nw'); (first | (with_unfolding_all refine iter_listUnr (vs := [_]) (by rfl) Fw' Nw' (by k_mem) (by rfl) (by rfl) ?_) | (with_unfolding_all refine iter_listUnr (vs := [_, _]) (by rfl) Fw' Nw' (by k_mem) (by rfl) (by rfl) ?_)); clear Fw'; intro iw lw; (try k_lt lw)) | ((show wpAny _ _ (subscriptTail _ _ (Value.ref _) (Value.int _ _)) _ _ _); k_here; (first | k_dflt (refine' m_getT (by k_asm) (by k_mem) (by decide) (by first | decide | tb_rel) (by rfl) ?_ (by with_unfolding_all rfl)) | k_dflt (refine' m_get (by k_asm) (by k_mem) (by first | decide | tb_rel) (by first | decide | tb_rel) (by first | assumption | rfl) ?_ (by with_unfolding_all rfl) (by intro _; with_unfolding_all rfl)))) | ((show wpAny _ _ (callWith _ (Prod.fst (Value.builtin _, _)) (Prod.snd (_, _ :: _)) (backTo _ (starEach (_ :: _) _)) []) _ _ _); refine callWith_method1 ?_ (by with_unfolding_all rfl) (by with_unfolding_all rfl)) | ((show wpAny _ _ (compareOp _ (Value.str _ _) _) _ _ _); k_here; (first | ((show wpAny _ _ (compareOp CmpOp.Eq (Value.str _ _) (Value.str _ _)) _ _ _); refine m_eqS (by assumption) ?_) | ((show wpAny _ _ (compareOp CmpOp.In (Value.str _ _) (Value.ref _)) _ _ _); (first | k_dflt (refine' m_inT (by k_asm) (by k_mem) (by assumption) ?_) | k_dflt (refine' m_inTop (by k_asm) (by k_asm) (by k_is) (by kde_strs) (by first | assumption | rfl | decide) ?_))))) | ((show wpAny _ _ (binaryOp _ (Value.ref _) _) _ _ _); k_here; (first | ((show wpAny _ _ (binaryOp Operator.Add (Value.ref _) (Value.ref _)) _ _ _); k_dflt (refine' m_add (by k_asm) (by k_asm) (by k_mem) (by k_mem) (by tb_rel) (by tb_rel) ?_)) | ((show wpAny _ _ (binaryOp Operator.Mult (Value.ref _) (Value.int _ _)) _ _ _); k_dflt (refine' m_mul (by k_asm) (by k_asm) (by k_mem) (by rfl) (by omega) ?_))); intro Dw hw Fw Nw lw; (try k_lt lw); (try k_sweep))) | ((with_reducible show UnrEnd _ _ _ _ _ _ _); (rename Fr _ _ _ _ => uF); (rename News _ _ _ _ => uN); k_dflt (apply unr_off uF uN (by k_mem)); (· repeat (first | exact off_nil | (apply off_all; tbn_find) | apply off_eq | (apply off_ne; · k_ne))); refine ⟨by k_mem, ?_⟩) | walk1 | (dsimp only; walk1) | (leave1; (try dsimp only))))
              rename News _ _ _ _ => eN
              refine eq_ords eN (by k_mem) (by k_mem) (hO.mono fun p hp => ?m1) ((((marks_in (by k_mem) _).append (.one (.one (by k_mem)))).append (hnm.mono fun p hp => ?m2)).append (.one (.done (by k_mem)))) ?hu ?_
              case m1 => repeat (first | exact List.mem_append_right _ (.tail _ (.tail _ (.tail _ hp))) | apply List.Mem.tail)
              case m2 => repeat (first | exact List.mem_append_left _ hp | apply List.Mem.tail)
              case hu => ktr_units
              (try dsimp only)
              rename Fr _ _ _ _ => eF2
              exact hend _ _ _ eF2
      · refine law_iterC (n := n) (fun S => nowN .len1 S) aC (by rfl) aR (by rfl) hn2 aF aN (by rfl) (by rfl) (by rfl) (by k_mem) (by k_mem) (by k_mem) ?hoff (by rfl) ?turn ?done
        case hoff => constructor <;> (refine neN ?_; omega)
        case turn =>
          clear aF aN aR
          intro i t S kk a Ta Tb h tk u hi hS hTT hoT hN F' N'
          refine use_first first (Nat.lt_of_lt_of_le hi hn2) hS hoT F' N' ?_
          clear F' N'
          intro x kk' h' tk' u' F' N'
          (try dsimp only)
          repeat' ((fail_if_success (with_reducible show LawPost _ _ _ _ _ _ _ _ _ _ _ _)); (fail_if_success (with_reducible show wpAny _ _ (subscriptTail _ _ (Value.ref _) (Value.int _ _)) _ _ _)); (first | (k_unfold; (try dsimp only)) | (k_end; wrow_close) | (with_reducible first | ((show wpAny _ _ (call (Value.builtin _) _) _ _ _); k_here; (first | ((show wpAny _ _ (call (Value.builtin "len") _) _ _ _); (first | k_dflt (refine' m_lenL (by k_asm) (by k_mem) (by first | (show _ = (0 : Int); rfl) | (show _ = (1 : Int); rfl) | (show _ = (2 : Int); rfl) | (show _ = (3 : Int); rfl) | (show _ = (4 : Int); rfl)) (by decide) ?_) | k_dflt (refine' m_len (by k_asm) (by k_mem) (by tb_rel) ?_))) | ((first | ((show wpAny _ _ (call (Value.builtin "list.append") _) _ _ _); k_dflt (refine' m_append (by k_asm) (by k_asm) (by first | assumption | k_upd) (by tb_rel) ?_)) | ((show wpAny _ _ (call (Value.builtin "list.extend") _) _ _ _); (first | k_dflt (refine' m_extend_nil (by k_asm) (by k_asm) (by k_mem) (by k_upd) (by tb_rel) ?_) | k_dflt (refine' m_extend (by k_asm) (by k_asm) (by k_mem) (by kl_some) (by k_upd) (by tb_rel) (by tb_rel) ?_))) | ((show wpAny _ _ (call (Value.builtin "list.pop") _) _ _ _); k_dflt (refine' m_pop (by k_asm) (by k_asm) (by k_upd) (by tb_rel) ?_))); intro hw Fw Nw; (try simp only [List.cons_append, List.nil_append] at Nw); (try k_sweep)))) | ((show wpAny _ _ (setItem (Value.ref _) (Value.int _ _) _) _ _ _); k_here; k_dflt (refine' m_set (by k_asm) (by k_asm) (by k_upd) (by tb_rel) (by tb_rel) (by tb_rel) ?_); intro hw Fw Nw; (try simp only [List.cons_append, List.nil_append] at Nw); (try k_sweep)) | ((show WhlIf _ _ _); (first | (refine WhlIf.yes (decide_eq_true (by tb_rel)) ?_) | (refine WhlIf.no (decide_eq_false (by tb_rel)) ?_))) | ((first | show wpAny _ _ (exec (Stmt.For (PySem.Expr.Name _ _) (PySem.Expr.Name _ _) _ _ _) _) _ _ _ | show wpAny _ _ (exec (Stmt.For (PySem.Expr.Name _ _) (PySem.Expr.Subscript _ _ _) _ _ _) _) _ _ _); k_here; (rename Fr _ _ _ _ => Fw'); (with_unfolding_all refine' For_invVF Fw' (by exact rfl) (by exact rfl) ?_); k_whole) | ((show wpAny _ _ (pyIter (Value.ref _)) _ _ _); k_here; (rename Fr _ _ _ _ => Fw'); (rename News _ _ _ _ => Nw'); (first | (with_unfolding_all refine iter_listUnr (vs := [_]) (by rfl) Fw' Nw' (by k_mem) (by rfl) (by rfl) ?_) | (with_unfolding_all refine iter_listUnr (vs := [_, _]) (by rfl) Fw' Nw' (by k_mem) (by rfl) (by rfl) ?_)); clear Fw'; intro iw lw; (try k_lt lw)) | ((show wpAny _ _ (subscriptTail _ _ (Value.ref _) (Value.int _ _)) _ _ _); k_here; (first | k_dflt (refine' m_getT (by k_asm) (by k_mem) (by decide) (by first | decide | tb_rel) (by rfl) ?_ (by with_unfolding_all rfl)) | k_dflt (refine' m_get (by k_asm) (by k_mem) (by first | decide | tb_rel) (by first | decide | tb_rel) (by first | assumption | rfl) ?_ (by with_unfolding_all rfl) (by intro _; with_unfolding_all rfl)))) | ((show wpAny _ _ (callWith _ (Prod.fst (Value.builtin _, _)) (Prod.snd (_, _ :: _)) (backTo _ (starEach (_ :: _) _)) []) _ _ _); refine callWith_method1 ?_ (by with_unfolding_all rfl) (by with_unfolding_all rfl)) | ((show wpAny _ _ (compareOp _ (Value.str _ _) _) _ _ _); k_here; (first | ((show wpAny _ _ (compareOp CmpOp.Eq (Value.str _ _) (Value.str _ _)) _ _ _); refine m_eqS (by assumption) ?_) | ((show wpAny _ _ (compareOp CmpOp.In (Value.str _ _) (Value.ref _)) _ _ _); (first | k_dflt (refine' m_inT (by k_asm) (by k_mem) (by assumption) ?_) | k_dflt (refine' m_inTop (by k_asm) (by k_asm) (by k_is) (by kde_strs) (by first | assumption | rfl | decide) ?_))))) | ((show wpAny _ _ (binaryOp _ (Value.ref _) _) _ _ _); k_here; (first | ((show wpAny _ _ (binaryOp Operator.Add (Value.ref _) (Value.ref _)) _ _ _); k_dflt (refine' m_add (by k_asm) (by k_asm) (by k_mem) (by k_mem) (by tb_rel) (by tb_rel) ?_)) | ((show wpAny _ _ (binaryOp Operator.Mult (Value.ref _) (Value.int _ _)) _ _ _); k_dflt (refine' m_mul (by k_asm) (by k_asm) (by k_mem) (by rfl) (by omega) ?_))); intro Dw hw Fw Nw lw; (try k_lt lw); (try k_sweep))) | ((with_reducible show UnrEnd _ _ _ _ _ _ _); (rename Fr _ _ _ _ => uF); (rename News _ _ _ _ => uN); k_dflt (apply unr_off uF uN (by k_mem)); (· repeat (first | exact off_nil | (apply off_all; tbn_find) | apply off_eq | (apply off_ne; · k_ne))); refine ⟨by k_mem, ?_⟩) | walk1 | (dsimp only; walk1) | (leave1; (try dsimp only))))
          rename News _ _ _ _ => mN
          refine kba_turn (value' := PySem.Expr.Name (PySem.Str.ofString "_") ⟨0, 0, 0, 0⟩) (fun _ => rfl) ?_
          refine m_get mN (by k_mem) (by decide) (by decide) (by rfl) ?_ (by with_unfolding_all rfl) (by intro _; with_unfolding_all rfl)
          (try dsimp only)
          repeat' ((fail_if_success (with_reducible show LawPost _ _ _ _ _ _ _ _ _ _ _ _)); (fail_if_success (with_reducible show wpAny _ _ (subscriptTail _ _ (Value.ref _) (Value.int _ _)) _ _ _)); (first | (k_unfold; (try dsimp only)) | (k_end; wrow_close) | (with_reducible first | ((show wpAny _ _ (call (Value.builtin _) _) _ _ _); k_here; (first | ((show wpAny _ _ (call (Value.builtin "len") _) _ _ _); (first | k_dflt (refine' m_lenL (by k_asm) (by k_mem) (by first | (show _ = (0 : Int); rfl) | (show _ = (1 : Int); rfl) | (show _ = (2 : Int); rfl) | (show _ = (3 : Int); rfl) | (show _ = (4 : Int); rfl)) (by decide) ?_) | k_dflt (refine' m_len (by k_asm) (by k_mem) (by tb_rel) ?_))) | ((first | ((show wpAny _ _ (call (Value.builtin "list.append") _) _ _ _); k_dflt (refine' m_append (by k_asm) (by k_asm) (by first | assumption | k_upd) (by tb_rel) ?_)) | ((show wpAny _ _ (call (Value.builtin "list.extend") _) _ _ _); (first | k_dflt (refine' m_extend_nil (by k_asm) (by k_asm) (by k_mem) (by k_upd) (by tb_rel) ?_) | k_dflt (refine' m_extend (by k_asm) (by k_asm) (by k_mem) (by kl_some) (by k_upd) (by tb_rel) (by tb_rel) ?_))) | ((show wpAny _ _ (call (Value.builtin "list.pop") _) _ _ _); k_dflt (refine' m_pop (by k_asm) (by k_asm) (by k_upd) (by tb_rel) ?_))); intro hw Fw Nw; (try simp only [List.cons_append, List.nil_append] at Nw); (try k_sweep)))) | ((show wpAny _ _ (setItem (Value.ref _) (Value.int _ _) _) _ _ _); k_here; k_dflt (refine' m_set (by k_asm) (by k_asm) (by k_upd) (by tb_rel) (by tb_rel) (by tb_rel) ?_); intro hw Fw Nw; (try simp only [List.cons_append, List.nil_append] at Nw); (try k_sweep)) | ((show WhlIf _ _ _); (first | (refine WhlIf.yes (decide_eq_true (by tb_rel)) ?_) | (refine WhlIf.no (decide_eq_false (by tb_rel)) ?_))) | ((first | show wpAny _ _ (exec (Stmt.For (PySem.Expr.Name _ _) (PySem.Expr.Name _ _) _ _ _) _) _ _ _ | show wpAny _ _ (exec (Stmt.For (PySem.Expr.Name _ _) (PySem.Expr.Subscript _ _ _) _ _ _) _) _ _ _); k_here; (rename Fr _ _ _ _ => Fw'); (with_unfolding_all refine' For_invVF Fw' (by exact rfl) (by exact rfl) ?_); k_whole) | ((show wpAny _ _ (pyIter (Value.ref _)) _ _ _); k_here; (rename Fr _ _ _ _ => Fw'); (rename News _ _ _ _ => Nw'); (first | (with_unfolding_all refine iter_listUnr (vs := [_]) (by rfl) Fw' Nw' (by k_mem) (by rfl) (by rfl) ?_) | (with_unfolding_all refine iter_listUnr (vs := [_, _]) (by rfl) Fw' Nw' (by k_mem) (by rfl) (by rfl) ?_)); clear Fw'; intro iw lw; (try k_lt lw)) | ((show wpAny _ _ (subscriptTail _ _ (Value.ref _) (Value.int _ _)) _ _ _); k_here; (first | k_dflt (refine' m_getT (by k_asm) (by k_mem) (by decide) (by first | decide | tb_rel) (by rfl) ?_ (by with_unfolding_all rfl)) | k_dflt (refine' m_get (by k_asm) (by k_mem) (by first | decide | tb_rel) (by first | decide | tb_rel) (by first | assumption | rfl) ?_ (by with_unfolding_all rfl) (by intro _; with_unfolding_all rfl)))) | ((show wpAny _ _ (callWith _ (Prod.fst (Value.builtin _, _)) (Prod.snd (_, _ :: _)) (backTo _ (starEach (_ :: _) _)) []) _ _ _); refine callWith_method1 ?_ (by with_unfolding_all rfl) (by with_unfolding_all rfl)) | ((show wpAny _ _ (compareOp _ (Value.str _ _) _) _ _ _); k_here; (first | ((show wpAny _ _ (compareOp CmpOp.Eq (Value.str _ _) (Value.str _ _)) _ _ _); refine m_eqS (by assumption) ?_) | ((show wpAny _ _ (compareOp CmpOp.In (Value.str _ _) (Value.ref _)) _ _ _); (first | k_dflt (refine' m_inT (by k_asm) (by k_mem) (by assumption) ?_) | k_dflt (refine' m_inTop (by k_asm) (by k_asm) (by k_is) (by kde_strs) (by first | assumption | rfl | decide) ?_))))) | ((show wpAny _ _ (binaryOp _ (Value.ref _) _) _ _ _); k_here; (first | ((show wpAny _ _ (binaryOp Operator.Add (Value.ref _) (Value.ref _)) _ _ _); k_dflt (refine' m_add (by k_asm) (by k_asm) (by k_mem) (by k_mem) (by tb_rel) (by tb_rel) ?_)) | ((show wpAny _ _ (binaryOp Operator.Mult (Value.ref _) (Value.int _ _)) _ _ _); k_dflt (refine' m_mul (by k_asm) (by k_asm) (by k_mem) (by rfl) (by omega) ?_))); intro Dw hw Fw Nw lw; (try k_lt lw); (try k_sweep))) | ((with_reducible show UnrEnd _ _ _ _ _ _ _); (rename Fr _ _ _ _ => uF); (rename News _ _ _ _ => uN); k_dflt (apply unr_off uF uN (by k_mem)); (· repeat (first | exact off_nil | (apply off_all; tbn_find) | apply off_eq | (apply off_ne; · k_ne))); refine ⟨by k_mem, ?_⟩) | walk1 | (dsimp only; walk1) | (leave1; (try dsimp only))))
          rename News _ _ _ _ => mN2
          refine m_get mN2 (by k_mem) (by omega) (by omega) (get_last hS) ?_ (by with_unfolding_all rfl) (by intro _; with_unfolding_all rfl)
          (try dsimp only)
          repeat' ((fail_if_success (with_reducible show LawPost _ _ _ _ _ _ _ _ _ _ _ _)); (first | (k_unfold; (try dsimp only)) | (k_end; wrow_close) | (with_reducible first | ((show wpAny _ _ (call (Value.builtin _) _) _ _ _); k_here; (first | ((show wpAny _ _ (call (Value.builtin "len") _) _ _ _); (first | k_dflt (refine' m_lenL (by k_asm) (by k_mem) (by first | (show _ = (0 : Int); rfl) | (show _ = (1 : Int); rfl) | (show _ = (2 : Int); rfl) | (show _ = (3 : Int); rfl) | (show _ = (4 : Int); rfl)) (by decide) ?_) | k_dflt (refine' m_len (by k_asm) (by k_mem) (by tb_rel) ?_))) | ((first | ((show wpAny _ _ (call (Value.builtin "list.append") _) _ _ _); k_dflt (refine' m_append (by k_asm) (by k_asm) (by first | assumption | k_upd) (by tb_rel) ?_)) | ((show wpAny _ _ (call (Value.builtin "list.extend") _) _ _ _); (first | k_dflt (refine' m_extend_nil (by k_asm) (by k_asm) (by k_mem) (by k_upd) (by tb_rel) ?_) | k_dflt (refine' m_extend (by k_asm) (by k_asm) (by k_mem) (by kl_some) (by k_upd) (by tb_rel) (by tb_rel) ?_))) | ((show wpAny _ _ (call (Value.builtin "list.pop") _) _ _ _); k_dflt (refine' m_pop (by k_asm) (by k_asm) (by k_upd) (by tb_rel) ?_))); intro hw Fw Nw; (try simp only [List.cons_append, List.nil_append] at Nw); (try k_sweep)))) | ((show wpAny _ _ (setItem (Value.ref _) (Value.int _ _) _) _ _ _); k_here; k_dflt (refine' m_set (by k_asm) (by k_asm) (by k_upd) (by tb_rel) (by tb_rel) (by tb_rel) ?_); intro hw Fw Nw; (try simp only [List.cons_append, List.nil_append] at Nw); (try k_sweep)) | ((show WhlIf _ _ _); (first | (refine WhlIf.yes (decide_eq_true (by tb_rel)) ?_) | (refine WhlIf.no (decide_eq_false (by tb_rel)) ?_))) | ((first | show wpAny _ _ (exec (Stmt.For (PySem.Expr.Name _ _) (PySem.Expr.Name _ _) _ _ _) _) _ _ _ | show wpAny _ _ (exec (Stmt.For (PySem.Expr.Name _ _) (PySem.Expr.Subscript _ _ _) _ _ _) _) _ _ _); k_here; (rename Fr _ _ _ _ => Fw'); (with_unfolding_all refine' For_invVF Fw' (by exact rfl) (by exact rfl) ?_); k_whole) | ((show wpAny _ _ (pyIter (Value.ref _)) _ _ _); k_here; (rename Fr _ _ _ _ => Fw'); (rename News _ _ _ _ => Nw'); (first | (with_unfolding_all refine iter_listUnr (vs := [_]) (by rfl) Fw' Nw' (by k_mem) (by rfl) (by rfl) ?_) | (with_unfolding_all refine iter_listUnr (vs := [_, _]) (by rfl) Fw' Nw' (by k_mem) (by rfl) (by rfl) ?_)); clear Fw'; intro iw lw; (try k_lt lw)) | ((show wpAny _ _ (subscriptTail _ _ (Value.ref _) (Value.int _ _)) _ _ _); k_here; (first | k_dflt (refine' m_getT (by k_asm) (by k_mem) (by decide) (by first | decide | tb_rel) (by rfl) ?_ (by with_unfolding_all rfl)) | k_dflt (refine' m_get (by k_asm) (by k_mem) (by first | decide | tb_rel) (by first | decide | tb_rel) (by first | assumption | rfl) ?_ (by with_unfolding_all rfl) (by intro _; with_unfolding_all rfl)))) | ((show wpAny _ _ (callWith _ (Prod.fst (Value.builtin _, _)) (Prod.snd (_, _ :: _)) (backTo _ (starEach (_ :: _) _)) []) _ _ _); refine callWith_method1 ?_ (by with_unfolding_all rfl) (by with_unfolding_all rfl)) | ((show wpAny _ _ (compareOp _ (Value.str _ _) _) _ _ _); k_here; (first | ((show wpAny _ _ (compareOp CmpOp.Eq (Value.str _ _) (Value.str _ _)) _ _ _); refine m_eqS (by assumption) ?_) | ((show wpAny _ _ (compareOp CmpOp.In (Value.str _ _) (Value.ref _)) _ _ _); (first | k_dflt (refine' m_inT (by k_asm) (by k_mem) (by assumption) ?_) | k_dflt (refine' m_inTop (by k_asm) (by k_asm) (by k_is) (by kde_strs) (by first | assumption | rfl | decide) ?_))))) | ((show wpAny _ _ (binaryOp _ (Value.ref _) _) _ _ _); k_here; (first | ((show wpAny _ _ (binaryOp Operator.Add (Value.ref _) (Value.ref _)) _ _ _); k_dflt (refine' m_add (by k_asm) (by k_asm) (by k_mem) (by k_mem) (by tb_rel) (by tb_rel) ?_)) | ((show wpAny _ _ (binaryOp Operator.Mult (Value.ref _) (Value.int _ _)) _ _ _); k_dflt (refine' m_mul (by k_asm) (by k_asm) (by k_mem) (by rfl) (by omega) ?_))); intro Dw hw Fw Nw lw; (try k_lt lw); (try k_sweep))) | ((with_reducible show UnrEnd _ _ _ _ _ _ _); (rename Fr _ _ _ _ => uF); (rename News _ _ _ _ => uN); k_dflt (apply unr_off uF uN (by k_mem)); (· repeat (first | exact off_nil | (apply off_all; tbn_find) | apply off_eq | (apply off_ne; · k_ne))); refine ⟨by k_mem, ?_⟩) | walk1 | (dsimp only; walk1) | (leave1; (try dsimp only))))
          rename News _ _ _ _ => kN
          rename Fr _ _ _ _ => kF
          refine law_end [_, _] (by assumption) ?hX kF (by rfl) (by rfl) (by rfl) kN ?hN
          case hX => repeat (first | exact True.intro | (refine And.intro (by (try dsimp only); omega) ?_))
          case hN => exact node_now (by k_mem) hN
        case done =>
          clear aF aN aR
          intro S kk a Ta h tk u hS hSr hoT hN F' N'
          (try dsimp only)
          repeat' ((fail_if_success (with_reducible show wpAny _ _ (call (Value.ref 112) _) _ _ _)); (first | (k_unfold; (try dsimp only)) | (k_end; wrow_close) | (with_reducible first | ((show wpAny _ _ (call (Value.builtin _) _) _ _ _); k_here; (first | ((show wpAny _ _ (call (Value.builtin "len") _) _ _ _); (first | k_dflt (refine' m_lenL (by k_asm) (by k_mem) (by first | (show _ = (0 : Int); rfl) | (show _ = (1 : Int); rfl) | (show _ = (2 : Int); rfl) | (show _ = (3 : Int); rfl) | (show _ = (4 : Int); rfl)) (by decide) ?_) | k_dflt (refine' m_len (by k_asm) (by k_mem) (by tb_rel) ?_))) | ((first | ((show wpAny _ _ (call (Value.builtin "list.append") _) _ _ _); k_dflt (refine' m_append (by k_asm) (by k_asm) (by first | assumption | k_upd) (by tb_rel) ?_)) | ((show wpAny _ _ (call (Value.builtin "list.extend") _) _ _ _); (first | k_dflt (refine' m_extend_nil (by k_asm) (by k_asm) (by k_mem) (by k_upd) (by tb_rel) ?_) | k_dflt (refine' m_extend (by k_asm) (by k_asm) (by k_mem) (by kl_some) (by k_upd) (by tb_rel) (by tb_rel) ?_))) | ((show wpAny _ _ (call (Value.builtin "list.pop") _) _ _ _); k_dflt (refine' m_pop (by k_asm) (by k_asm) (by k_upd) (by tb_rel) ?_))); intro hw Fw Nw; (try simp only [List.cons_append, List.nil_append] at Nw); (try k_sweep)))) | ((show wpAny _ _ (setItem (Value.ref _) (Value.int _ _) _) _ _ _); k_here; k_dflt (refine' m_set (by k_asm) (by k_asm) (by k_upd) (by tb_rel) (by tb_rel) (by tb_rel) ?_); intro hw Fw Nw; (try simp only [List.cons_append, List.nil_append] at Nw); (try k_sweep)) | ((show WhlIf _ _ _); (first | (refine WhlIf.yes (decide_eq_true (by tb_rel)) ?_) | (refine WhlIf.no (decide_eq_false (by tb_rel)) ?_))) | ((first | show wpAny _ _ (exec (Stmt.For (PySem.Expr.Name _ _) (PySem.Expr.Name _ _) _ _ _) _) _ _ _ | show wpAny _ _ (exec (Stmt.For (PySem.Expr.Name _ _) (PySem.Expr.Subscript _ _ _) _ _ _) _) _ _ _); k_here; (rename Fr _ _ _ _ => Fw'); (with_unfolding_all refine' For_invVF Fw' (by exact rfl) (by exact rfl) ?_); k_whole) | ((show wpAny _ _ (pyIter (Value.ref _)) _ _ _); k_here; (rename Fr _ _ _ _ => Fw'); (rename News _ _ _ _ => Nw'); (first | (with_unfolding_all refine iter_listUnr (vs := [_]) (by rfl) Fw' Nw' (by k_mem) (by rfl) (by rfl) ?_) | (with_unfolding_all refine iter_listUnr (vs := [_, _]) (by rfl) Fw' Nw' (by k_mem) (by rfl) (by rfl) ?_)); clear Fw'; intro iw lw; (try k_lt lw)) | ((show wpAny _ _ (subscriptTail _ _ (Value.ref _) (Value.int _ _)) _ _ _); k_here; (first | k_dflt (refine' m_getT (by k_asm) (by k_mem) (by decide) (by first | decide | tb_rel) (by rfl) ?_ (by with_unfolding_all rfl)) | k_dflt (refine' m_get (by k_asm) (by k_mem) (by first | decide | tb_rel) (by first | decide | tb_rel) (by first | assumption | rfl) ?_ (by with_unfolding_all rfl) (by intro _; with_unfolding_all rfl)))) | ((show wpAny _ _ (callWith _ (Prod.fst (Value.builtin _, _)) (Prod.snd (_, _ :: _)) (backTo _ (starEach (_ :: _) _)) []) _ _ _); refine callWith_method1 ?_ (by with_unfolding_all rfl) (by with_unfolding_all rfl)) | ((show wpAny _ _ (compareOp _ (Value.str _ _) _) _ _ _); k_here; (first | ((show wpAny _ _ (compareOp CmpOp.Eq (Value.str _ _) (Value.str _ _)) _ _ _); refine m_eqS (by assumption) ?_) | ((show wpAny _ _ (compareOp CmpOp.In (Value.str _ _) (Value.ref _)) _ _ _); (first | k_dflt (refine' m_inT (by k_asm) (by k_mem) (by assumption) ?_) | k_dflt (refine' m_inTop (by k_asm) (by k_asm) (by k_is) (by kde_strs) (by first | assumption | rfl | decide) ?_))))) | ((show wpAny _ _ (binaryOp _ (Value.ref _) _) _ _ _); k_here; (first | ((show wpAny _ _ (binaryOp Operator.Add (Value.ref _) (Value.ref _)) _ _ _); k_dflt (refine' m_add (by k_asm) (by k_asm) (by k_mem) (by k_mem) (by tb_rel) (by tb_rel) ?_)) | ((show wpAny _ _ (binaryOp Operator.Mult (Value.ref _) (Value.int _ _)) _ _ _); k_dflt (refine' m_mul (by k_asm) (by k_asm) (by k_mem) (by rfl) (by omega) ?_))); intro Dw hw Fw Nw lw; (try k_lt lw); (try k_sweep))) | ((with_reducible show UnrEnd _ _ _ _ _ _ _); (rename Fr _ _ _ _ => uF); (rename News _ _ _ _ => uN); k_dflt (apply unr_off uF uN (by k_mem)); (· repeat (first | exact off_nil | (apply off_all; tbn_find) | apply off_eq | (apply off_ne; · k_ne))); refine ⟨by k_mem, ?_⟩) | walk1 | (dsimp only; walk1) | (leave1; (try dsimp only))))
          rename News _ _ _ _ => cN
          rename Fr _ _ _ _ => cF
          refine cp _ (nowN .len1 S) a _ (hN.mono fun p hp => .tail _ (.tail _ hp)) (by rw [nowN_depth, hS]; simp only [Nd.depth]; omega) (straight_all _) _ _ _ _ _ _ _ _ _ _ _ _ _ _ _ _ _ _ (by assumption) cF (by k_asm) cN (by assumption) (by rfl) ?_
          clear cF cN
          rintro _ T' h' tk' F' N' ⟨ao, vs, no, rfl, hTT, hao, hO⟩
          (try dsimp only)
          replace N' := news_four (C := (_, _)) N' hao (hTT _ (.head _)) (hTT _ (.tail _ (.head _)))
          rw [now_spec hS] at hO
          repeat' ((fail_if_success (with_reducible show wpAny _ _ (exec (Stmt.Assign _ (PySem.Expr.ListComp _ _ _ _) _) _) _ _ _)); (first | (k_unfold; (try dsimp only)) | (k_end; wrow_close) | (with_reducible first | ((show wpAny _ _ (call (Value.builtin _) _) _ _ _); k_here; (first | ((show wpAny _ _ (call (Value.builtin "len") _) _ _ _); (first | k_dflt (refine' m_lenL (by k_asm) (by k_mem) (by first | (show _ = (0 : Int); rfl) | (show _ = (1 : Int); rfl) | (show _ = (2 : Int); rfl) | (show _ = (3 : Int); rfl) | (show _ = (4 : Int); rfl)) (by decide) ?_) | k_dflt (refine' m_len (by k_asm) (by k_mem) (by tb_rel) ?_))) | ((first | ((show wpAny _ _ (call (Value.builtin "list.append") _) _ _ _); k_dflt (refine' m_append (by k_asm) (by k_asm) (by first | assumption | k_upd) (by tb_rel) ?_)) | ((show wpAny _ _ (call (Value.builtin "list.extend") _) _ _ _); (first | k_dflt (refine' m_extend_nil (by k_asm) (by k_asm) (by k_mem) (by k_upd) (by tb_rel) ?_) | k_dflt (refine' m_extend (by k_asm) (by k_asm) (by k_mem) (by kl_some) (by k_upd) (by tb_rel) (by tb_rel) ?_))) | ((show wpAny _ _ (call (Value.builtin "list.pop") _) _ _ _); k_dflt (refine' m_pop (by k_asm) (by k_asm) (by k_upd) (by tb_rel) ?_))); intro hw Fw Nw; (try simp only [List.cons_append, List.nil_append] at Nw); (try k_sweep)))) | ((show wpAny _ _ (setItem (Value.ref _) (Value.int _ _) _) _ _ _); k_here; k_dflt (refine' m_set (by k_asm) (by k_asm) (by k_upd) (by tb_rel) (by tb_rel) (by tb_rel) ?_); intro hw Fw Nw; (try simp only [List.cons_append, List.nil_append] at Nw); (try k_sweep)) | ((show WhlIf _ _ _); (first | (refine WhlIf.yes (decide_eq_true (by tb_rel)) ?_) | (refine WhlIf.no (decide_eq_false (by tb_rel)) ?_))) | ((first | show wpAny _ _ (exec (Stmt.For (PySem.Expr.Name _ _) (PySem.Expr.Name _ _) _ _ _) _) _ _ _ | show wpAny _ _ (exec (Stmt.For (PySem.Expr.Name _ _) (PySem.Expr.Subscript _ _ _) _ _ _) _) _ _ _); k_here; (rename Fr _ _ _ _ => Fw'); (with_unfolding_all refine' For_invVF Fw' (by exact rfl) (by exact rfl) ?_); k_whole) | ((show wpAny _ _ (pyIter (Value.ref _)) _ _ _); k_here; (rename Fr _ _ _ _ => Fw'); (rename News _ _ _ _ => Nw'); (first | (with_unfolding_all refine iter_listUnr (vs := [_]) (by rfl) Fw' Nw' (by k_mem) (by rfl) (by rfl) ?_) | (with_unfolding_all refine iter_listUnr (vs := [_, _]) (by rfl) Fw' Nw' (by k_mem) (by rfl) (by rfl) ?_)); clear Fw'; intro iw lw; (try k_lt lw)) | ((show wpAny _ _ (subscriptTail _ _ (Value.ref _) (Value.int _ _)) _ _ _); k_here; (first | k_dflt (refine' m_getT (by k_asm) (by k_mem) (by decide) (by first | decide | tb_rel) (by rfl) ?_ (by with_unfolding_all rfl)) | k_dflt (refine' m_get (by k_asm) (by k_mem) (by first | decide | tb_rel) (by first | decide | tb_rel) (by first | assumption | rfl) ?_ (by with_unfolding_all rfl) (by intro _; with_unfolding_all rfl)))) | ((show wpAny _ _ (callWith _ (Prod.fst (Value.builtin _, _)) (Prod.snd (_, _ :: _)) (backTo _ (starEach (_ :: _) _)) []) _ _ _); refine callWith_method1 ?_ (by with_unfolding_all rfl) (by with_unfolding_all rfl)) | ((show wpAny _ _ (compareOp _ (Value.str _ _) _) _ _ _); k_here; (first | ((show wpAny _ _ (compareOp CmpOp.Eq (Value.str _ _) (Value.str _ _)) _ _ _); refine m_eqS (by assumption) ?_) | ((show wpAny _ _ (compareOp CmpOp.In (Value.str _ _) (Value.ref _)) _ _ _); (first | k_dflt (refine' m_inT (by k_asm) (by k_mem) (by assumption) ?_) | k_dflt (refine' m_inTop (by k_asm) (by k_asm) (by k_is) (by kde_strs) (by first | assumption | rfl | decide) ?_))))) | ((show wpAny _ _ (binaryOp _ (Value.ref _) _) _ _ _); k_here; (first | ((show wpAny _ _ (binaryOp Operator.Add (Value.ref _) (Value.ref _)) _ _ _); k_dflt (refine' m_add (by k_asm) (by k_asm) (by k_mem) (by k_mem) (by tb_rel) (by tb_rel) ?_)) | ((show wpAny _ _ (binaryOp Operator.Mult (Value.ref _) (Value.int _ _)) _ _ _); k_dflt (refine' m_mul (by k_asm) (by k_asm) (by k_mem) (by rfl) (by omega) ?_))); intro Dw hw Fw Nw lw; (try k_lt lw); (try k_sweep))) | ((with_reducible show UnrEnd _ _ _ _ _ _ _); (rename Fr _ _ _ _ => uF); (rename News _ _ _ _ => uN); k_dflt (apply unr_off uF uN (by k_mem)); (· repeat (first | exact off_nil | (apply off_all; tbn_find) | apply off_eq | (apply off_ne; · k_ne))); refine ⟨by k_mem, ?_⟩) | walk1 | (dsimp only; walk1) | (leave1; (try dsimp only))))
          rename Fr _ _ _ _ => gF
          k_dflt (refine Assign_ListComp_obj gF (fun v o => ∃ t1, o = tupO [sv "set" t1, v]) ?hsw ?hh (by with_unfolding_all rfl) ?hcell ?hkind ?hnames ?hx ?hy ?hp ?h ?hs)
          case hsw => with_unfolding_all rfl
          case hh => exact rfl
          case hcell => decide
          case hkind => with_unfolding_all rfl
          case hnames => decide
          case hx => with_unfolding_all rfl
          case hy => with_unfolding_all rfl
          case hp => with_unfolding_all rfl
          case hs => intro _; with_unfolding_all rfl
          case h =>
            repeat' ((fail_if_success (with_reducible show ∃ news ax vs nn, _)); (first | (k_unfold; (try dsimp only)) | (k_end; wrow_close) | (with_reducible first | ((show wpAny _ _ (call (Value.builtin _) _) _ _ _); k_here; (first | ((show wpAny _ _ (call (Value.builtin "len") _) _ _ _); (first | k_dflt (refine' m_lenL (by k_asm) (by k_mem) (by first | (show _ = (0 : Int); rfl) | (show _ = (1 : Int); rfl) | (show _ = (2 : Int); rfl) | (show _ = (3 : Int); rfl) | (show _ = (4 : Int); rfl)) (by decide) ?_) | k_dflt (refine' m_len (by k_asm) (by k_mem) (by tb_rel) ?_))) | ((first | ((show wpAny _ _ (call (Value.builtin "list.append") _) _ _ _); k_dflt (refine' m_append (by k_asm) (by k_asm) (by first | assumption | k_upd) (by tb_rel) ?_)) | ((show wpAny _ _ (call (Value.builtin "list.extend") _) _ _ _); (first | k_dflt (refine' m_extend_nil (by k_asm) (by k_asm) (by k_mem) (by k_upd) (by tb_rel) ?_) | k_dflt (refine' m_extend (by k_asm) (by k_asm) (by k_mem) (by kl_some) (by k_upd) (by tb_rel) (by tb_rel) ?_))) | ((show wpAny _ _ (call (Value.builtin "list.pop") _) _ _ _); k_dflt (refine' m_pop (by k_asm) (by k_asm) (by k_upd) (by tb_rel) ?_))); intro hw Fw Nw; (try simp only [List.cons_append, List.nil_append] at Nw); (try k_sweep)))) | ((show wpAny _ _ (setItem (Value.ref _) (Value.int _ _) _) _ _ _); k_here; k_dflt (refine' m_set (by k_asm) (by k_asm) (by k_upd) (by tb_rel) (by tb_rel) (by tb_rel) ?_); intro hw Fw Nw; (try simp only [List.cons_append, List.nil_append] at Nw); (try k_sweep)) | ((show WhlIf _ _ _); (first | (refine WhlIf.yes (decide_eq_true (by tb_rel)) ?_) | (refine WhlIf.no (decide_eq_false (by tb_rel)) ?_))) | ((first | show wpAny _ _ (exec (Stmt.For (PySem.Expr.Name _ _) (PySem.Expr.Name _ _) _ _ _) _) _ _ _ | show wpAny _ _ (exec (Stmt.For (PySem.Expr.Name _ _) (PySem.Expr.Subscript _ _ _) _ _ _) _) _ _ _); k_here; (rename Fr _ _ _ _ => Fw'); (with_unfolding_all refine' For_invVF Fw' (by exact rfl) (by exact rfl) ?_); k_whole) | ((show wpAny _ _ (pyIter (Value.ref _)) _ _ _); k_here; (rename Fr _ _ _ _ => Fw'); (rename News _ _ _ _ => Nw'); (first | (with_unfolding_all refine iter_listUnr (vs := [_]) (by rfl) Fw' Nw' (by k_mem) (by rfl) (by rfl) ?_) | (with_unfolding_all refine iter_listUnr (vs := [_, _]) (by rfl) Fw' Nw' (by k_mem) (by rfl) (by rfl) ?_)); clear Fw'; intro iw lw; (try k_lt lw)) | ((show wpAny _ _ (subscriptTail _ _ (Value.ref _) (Value.int _ _)) _ _ _); k_here; (first | k_dflt (refine' m_getT (by k_asm) (by k_mem) (by decide) (by first | decide | tb_rel) (by rfl) ?_ (by with_unfolding_all rfl)) | k_dflt (refine' m_get (by k_asm) (by k_mem) (by first | decide | tb_rel) (by first | decide | tb_rel) (by first | assumption | rfl) ?_ (by with_unfolding_all rfl) (by intro _; with_unfolding_all rfl)))) | ((show wpAny _ _ (callWith _ (Prod.fst (Value.builtin _, _)) (Prod.snd (_, _ :: _)) (backTo _ (starEach (_ :: _) _)) []) _ _ _); refine callWith_method1 ?_ (by with_unfolding_all rfl) (by with_unfolding_all rfl)) | ((show wpAny _ _ (compareOp _ (Value.str _ _) _) _ _ _); k_here; (first | ((show wpAny _ _ (compareOp CmpOp.Eq (Value.str _ _) (Value.str _ _)) _ _ _); refine m_eqS (by assumption) ?_) | ((show wpAny _ _ (compareOp CmpOp.In (Value.str _ _) (Value.ref _)) _ _ _); (first | k_dflt (refine' m_inT (by k_asm) (by k_mem) (by assumption) ?_) | k_dflt (refine' m_inTop (by k_asm) (by k_asm) (by k_is) (by kde_strs) (by first | assumption | rfl | decide) ?_))))) | ((show wpAny _ _ (binaryOp _ (Value.ref _) _) _ _ _); k_here; (first | ((show wpAny _ _ (binaryOp Operator.Add (Value.ref _) (Value.ref _)) _ _ _); k_dflt (refine' m_add (by k_asm) (by k_asm) (by k_mem) (by k_mem) (by tb_rel) (by tb_rel) ?_)) | ((show wpAny _ _ (binaryOp Operator.Mult (Value.ref _) (Value.int _ _)) _ _ _); k_dflt (refine' m_mul (by k_asm) (by k_asm) (by k_mem) (by rfl) (by omega) ?_))); intro Dw hw Fw Nw lw; (try k_lt lw); (try k_sweep))) | ((with_reducible show UnrEnd _ _ _ _ _ _ _); (rename Fr _ _ _ _ => uF); (rename News _ _ _ _ => uN); k_dflt (apply unr_off uF uN (by k_mem)); (· repeat (first | exact off_nil | (apply off_all; tbn_find) | apply off_eq | (apply off_ne; · k_ne))); refine ⟨by k_mem, ?_⟩) | walk1 | (dsimp only; walk1) | (leave1; (try dsimp only))))
            rename Fr _ _ _ _ => kF
            rename News _ _ _ _ => kN
            refine' ⟨_, _, S, _, rfl, ?m1, ?len, kF, kN, ?elt, ?aft⟩
            case m1 => k_mem
            case len => omega
            case elt =>
              intro C v s₂ m₂ E' hC hv hn hm hk
              have F' := comp_fr kF hC hn hm hk
              have N' := comp_news kN hC hk
              repeat' ((fail_if_success (with_reducible show wpAny _ _ (newList _) _ _ _)); (first | (k_unfold; (try dsimp only)) | (k_end; wrow_close) | (with_reducible first | ((show wpAny _ _ (call (Value.builtin _) _) _ _ _); k_here; (first | ((show wpAny _ _ (call (Value.builtin "len") _) _ _ _); (first | k_dflt (refine' m_lenL (by k_asm) (by k_mem) (by first | (show _ = (0 : Int); rfl) | (show _ = (1 : Int); rfl) | (show _ = (2 : Int); rfl) | (show _ = (3 : Int); rfl) | (show _ = (4 : Int); rfl)) (by decide) ?_) | k_dflt (refine' m_len (by k_asm) (by k_mem) (by tb_rel) ?_))) | ((first | ((show wpAny _ _ (call (Value.builtin "list.append") _) _ _ _); k_dflt (refine' m_append (by k_asm) (by k_asm) (by first | assumption | k_upd) (by tb_rel) ?_)) | ((show wpAny _ _ (call (Value.builtin "list.extend") _) _ _ _); (first | k_dflt (refine' m_extend_nil (by k_asm) (by k_asm) (by k_mem) (by k_upd) (by tb_rel) ?_) | k_dflt (refine' m_extend (by k_asm) (by k_asm) (by k_mem) (by kl_some) (by k_upd) (by tb_rel) (by tb_rel) ?_))) | ((show wpAny _ _ (call (Value.builtin "list.pop") _) _ _ _); k_dflt (refine' m_pop (by k_asm) (by k_asm) (by k_upd) (by tb_rel) ?_))); intro hw Fw Nw; (try simp only [List.cons_append, List.nil_append] at Nw); (try k_sweep)))) | ((show wpAny _ _ (setItem (Value.ref _) (Value.int _ _) _) _ _ _); k_here; k_dflt (refine' m_set (by k_asm) (by k_asm) (by k_upd) (by tb_rel) (by tb_rel) (by tb_rel) ?_); intro hw Fw Nw; (try simp only [List.cons_append, List.nil_append] at Nw); (try k_sweep)) | ((show WhlIf _ _ _); (first | (refine WhlIf.yes (decide_eq_true (by tb_rel)) ?_) | (refine WhlIf.no (decide_eq_false (by tb_rel)) ?_))) | ((first | show wpAny _ _ (exec (Stmt.For (PySem.Expr.Name _ _) (PySem.Expr.Name _ _) _ _ _) _) _ _ _ | show wpAny _ _ (exec (Stmt.For (PySem.Expr.Name _ _) (PySem.Expr.Subscript _ _ _) _ _ _) _) _ _ _); k_here; (rename Fr _ _ _ _ => Fw'); (with_unfolding_all refine' For_invVF Fw' (by exact rfl) (by exact rfl) ?_); k_whole) | ((show wpAny _ _ (pyIter (Value.ref _)) _ _ _); k_here; (rename Fr _ _ _ _ => Fw'); (rename News _ _ _ _ => Nw'); (first | (with_unfolding_all refine iter_listUnr (vs := [_]) (by rfl) Fw' Nw' (by k_mem) (by rfl) (by rfl) ?_) | (with_unfolding_all refine iter_listUnr (vs := [_, _]) (by rfl) Fw' Nw' (by k_mem) (by rfl) (by rfl) ?_)); clear Fw'; intro iw lw; (try k_lt lw)) | ((show wpAny _ _ (subscriptTail _ _ (Value.ref _) (Value.int _ _)) _ _ _); k_here; (first | k_dflt (refine' m_getT (by k_asm) (by k_mem) (by decide) (by first | decide | tb_rel) (by rfl) ?_ (by with_unfolding_all rfl)) | k_dflt (refine' m_get (by k_asm) (by k_mem) (by first | decide | tb_rel) (by first | decide | tb_rel) (by first | assumption | rfl) ?_ (by with_unfolding_all rfl) (by intro _; with_unfolding_all rfl)))) | ((show wpAny _ _ (callWith _ (Prod.fst (Value.builtin _, _)) (Prod.snd (_, _ :: _)) (backTo _ (starEach (_ :: _) _)) []) _ _ _); refine callWith_method1 ?_ (by with_unfolding_all rfl) (by with_unfolding_all rfl)) | ((show wpAny _ _ (compareOp _ (Value.str _ _) _) _ _ _); k_here; (first | ((show wpAny _ _ (compareOp CmpOp.Eq (Value.str _ _) (Value.str _ _)) _ _ _); refine m_eqS (by assumption) ?_) | ((show wpAny _ _ (compareOp CmpOp.In (Value.str _ _) (Value.ref _)) _ _ _); (first | k_dflt (refine' m_inT (by k_asm) (by k_mem) (by assumption) ?_) | k_dflt (refine' m_inTop (by k_asm) (by k_asm) (by k_is) (by kde_strs) (by first | assumption | rfl | decide) ?_))))) | ((show wpAny _ _ (binaryOp _ (Value.ref _) _) _ _ _); k_here; (first | ((show wpAny _ _ (binaryOp Operator.Add (Value.ref _) (Value.ref _)) _ _ _); k_dflt (refine' m_add (by k_asm) (by k_asm) (by k_mem) (by k_mem) (by tb_rel) (by tb_rel) ?_)) | ((show wpAny _ _ (binaryOp Operator.Mult (Value.ref _) (Value.int _ _)) _ _ _); k_dflt (refine' m_mul (by k_asm) (by k_asm) (by k_mem) (by rfl) (by omega) ?_))); intro Dw hw Fw Nw lw; (try k_lt lw); (try k_sweep))) | ((with_reducible show UnrEnd _ _ _ _ _ _ _); (rename Fr _ _ _ _ => uF); (rename News _ _ _ _ => uN); k_dflt (apply unr_off uF uN (by k_mem)); (· repeat (first | exact off_nil | (apply off_all; tbn_find) | apply off_eq | (apply off_ne; · k_ne))); refine ⟨by k_mem, ?_⟩) | walk1 | (dsimp only; walk1) | (leave1; (try dsimp only))))
              refine newList_at (s₂ := s₂) F' N' ⟨_, _, rfl, fun _ _ e => e⟩ (by show 2 ≤ 1000; decide) fun D h' F3 N3 K3 => ?_
              (try dsimp only)
              repeat' ((fail_if_success (with_reducible show wpAny _ _ (subscriptTail _ _ (Value.ref _) (Value.int _ _)) _ _ _)); (first | (k_unfold; (try dsimp only)) | (k_end; wrow_close) | (with_reducible first | ((show wpAny _ _ (call (Value.builtin _) _) _ _ _); k_here; (first | ((show wpAny _ _ (call (Value.builtin "len") _) _ _ _); (first | k_dflt (refine' m_lenL (by k_asm) (by k_mem) (by first | (show _ = (0 : Int); rfl) | (show _ = (1 : Int); rfl) | (show _ = (2 : Int); rfl) | (show _ = (3 : Int); rfl) | (show _ = (4 : Int); rfl)) (by decide) ?_) | k_dflt (refine' m_len (by k_asm) (by k_mem) (by tb_rel) ?_))) | ((first | ((show wpAny _ _ (call (Value.builtin "list.append") _) _ _ _); k_dflt (refine' m_append (by k_asm) (by k_asm) (by first | assumption | k_upd) (by tb_rel) ?_)) | ((show wpAny _ _ (call (Value.builtin "list.extend") _) _ _ _); (first | k_dflt (refine' m_extend_nil (by k_asm) (by k_asm) (by k_mem) (by k_upd) (by tb_rel) ?_) | k_dflt (refine' m_extend (by k_asm) (by k_asm) (by k_mem) (by kl_some) (by k_upd) (by tb_rel) (by tb_rel) ?_))) | ((show wpAny _ _ (call (Value.builtin "list.pop") _) _ _ _); k_dflt (refine' m_pop (by k_asm) (by k_asm) (by k_upd) (by tb_rel) ?_))); intro hw Fw Nw; (try simp only [List.cons_append, List.nil_append] at Nw); (try k_sweep)))) | ((show wpAny _ _ (setItem (Value.ref _) (Value.int _ _) _) _ _ _); k_here; k_dflt (refine' m_set (by k_asm) (by k_asm) (by k_upd) (by tb_rel) (by tb_rel) (by tb_rel) ?_); intro hw Fw Nw; (try simp only [List.cons_append, List.nil_append] at Nw); (try k_sweep)) | ((show WhlIf _ _ _); (first | (refine WhlIf.yes (decide_eq_true (by tb_rel)) ?_) | (refine WhlIf.no (decide_eq_false (by tb_rel)) ?_))) | ((first | show wpAny _ _ (exec (Stmt.For (PySem.Expr.Name _ _) (PySem.Expr.Name _ _) _ _ _) _) _ _ _ | show wpAny _ _ (exec (Stmt.For (PySem.Expr.Name _ _) (PySem.Expr.Subscript _ _ _) _ _ _) _) _ _ _); k_here; (rename Fr _ _ _ _ => Fw'); (with_unfolding_all refine' For_invVF Fw' (by exact rfl) (by exact rfl) ?_); k_whole) | ((show wpAny _ _ (pyIter (Value.ref _)) _ _ _); k_here; (rename Fr _ _ _ _ => Fw'); (rename News _ _ _ _ => Nw'); (first | (with_unfolding_all refine iter_listUnr (vs := [_]) (by rfl) Fw' Nw' (by k_mem) (by rfl) (by rfl) ?_) | (with_unfolding_all refine iter_listUnr (vs := [_, _]) (by rfl) Fw' Nw' (by k_mem) (by rfl) (by rfl) ?_)); clear Fw'; intro iw lw; (try k_lt lw)) | ((show wpAny _ _ (subscriptTail _ _ (Value.ref _) (Value.int _ _)) _ _ _); k_here; (first | k_dflt (refine' m_getT (by k_asm) (by k_mem) (by decide) (by first | decide | tb_rel) (by rfl) ?_ (by with_unfolding_all rfl)) | k_dflt (refine' m_get (by k_asm) (by k_mem) (by first | decide | tb_rel) (by first | decide | tb_rel) (by first | assumption | rfl) ?_ (by with_unfolding_all rfl) (by intro _; with_unfolding_all rfl)))) | ((show wpAny _ _ (callWith _ (Prod.fst (Value.builtin _, _)) (Prod.snd (_, _ :: _)) (backTo _ (starEach (_ :: _) _)) []) _ _ _); refine callWith_method1 ?_ (by with_unfolding_all rfl) (by with_unfolding_all rfl)) | ((show wpAny _ _ (compareOp _ (Value.str _ _) _) _ _ _); k_here; (first | ((show wpAny _ _ (compareOp CmpOp.Eq (Value.str _ _) (Value.str _ _)) _ _ _); refine m_eqS (by assumption) ?_) | ((show wpAny _ _ (compareOp CmpOp.In (Value.str _ _) (Value.ref _)) _ _ _); (first | k_dflt (refine' m_inT (by k_asm) (by k_mem) (by assumption) ?_) | k_dflt (refine' m_inTop (by k_asm) (by k_asm) (by k_is) (by kde_strs) (by first | assumption | rfl | decide) ?_))))) | ((show wpAny _ _ (binaryOp _ (Value.ref _) _) _ _ _); k_here; (first | ((show wpAny _ _ (binaryOp Operator.Add (Value.ref _) (Value.ref _)) _ _ _); k_dflt (refine' m_add (by k_asm) (by k_asm) (by k_mem) (by k_mem) (by tb_rel) (by tb_rel) ?_)) | ((show wpAny _ _ (binaryOp Operator.Mult (Value.ref _) (Value.int _ _)) _ _ _); k_dflt (refine' m_mul (by k_asm) (by k_asm) (by k_mem) (by rfl) (by omega) ?_))); intro Dw hw Fw Nw lw; (try k_lt lw); (try k_sweep))) | ((with_reducible show UnrEnd _ _ _ _ _ _ _); (rename Fr _ _ _ _ => uF); (rename News _ _ _ _ => uN); k_dflt (apply unr_off uF uN (by k_mem)); (· repeat (first | exact off_nil | (apply off_all; tbn_find) | apply off_eq | (apply off_ne; · k_ne))); refine ⟨by k_mem, ?_⟩) | walk1 | (dsimp only; walk1) | (leave1; (try dsimp only))))
              refine kba_turn (value' := PySem.Expr.Name (PySem.Str.ofString "_") ⟨0, 0, 0, 0⟩) (fun _ => rfl) ?_
              refine m_get N3 (by k_mem) (by decide) (by decide) (by rfl) ?_ (by with_unfolding_all rfl) (by intro _; with_unfolding_all rfl)
              (try dsimp only)
              repeat' ((fail_if_success (with_reducible show wpAny _ _ (newTuple _) _ _ _)); (first | (k_unfold; (try dsimp only)) | (k_end; wrow_close) | (with_reducible first | ((show wpAny _ _ (call (Value.builtin _) _) _ _ _); k_here; (first | ((show wpAny _ _ (call (Value.builtin "len") _) _ _ _); (first | k_dflt (refine' m_lenL (by k_asm) (by k_mem) (by first | (show _ = (0 : Int); rfl) | (show _ = (1 : Int); rfl) | (show _ = (2 : Int); rfl) | (show _ = (3 : Int); rfl) | (show _ = (4 : Int); rfl)) (by decide) ?_) | k_dflt (refine' m_len (by k_asm) (by k_mem) (by tb_rel) ?_))) | ((first | ((show wpAny _ _ (call (Value.builtin "list.append") _) _ _ _); k_dflt (refine' m_append (by k_asm) (by k_asm) (by first | assumption | k_upd) (by tb_rel) ?_)) | ((show wpAny _ _ (call (Value.builtin "list.extend") _) _ _ _); (first | k_dflt (refine' m_extend_nil (by k_asm) (by k_asm) (by k_mem) (by k_upd) (by tb_rel) ?_) | k_dflt (refine' m_extend (by k_asm) (by k_asm) (by k_mem) (by kl_some) (by k_upd) (by tb_rel) (by tb_rel) ?_))) | ((show wpAny _ _ (call (Value.builtin "list.pop") _) _ _ _); k_dflt (refine' m_pop (by k_asm) (by k_asm) (by k_upd) (by tb_rel) ?_))); intro hw Fw Nw; (try simp only [List.cons_append, List.nil_append] at Nw); (try k_sweep)))) | ((show wpAny _ _ (setItem (Value.ref _) (Value.int _ _) _) _ _ _); k_here; k_dflt (refine' m_set (by k_asm) (by k_asm) (by k_upd) (by tb_rel) (by tb_rel) (by tb_rel) ?_); intro hw Fw Nw; (try simp only [List.cons_append, List.nil_append] at Nw); (try k_sweep)) | ((show WhlIf _ _ _); (first | (refine WhlIf.yes (decide_eq_true (by tb_rel)) ?_) | (refine WhlIf.no (decide_eq_false (by tb_rel)) ?_))) | ((first | show wpAny _ _ (exec (Stmt.For (PySem.Expr.Name _ _) (PySem.Expr.Name _ _) _ _ _) _) _ _ _ | show wpAny _ _ (exec (Stmt.For (PySem.Expr.Name _ _) (PySem.Expr.Subscript _ _ _) _ _ _) _) _ _ _); k_here; (rename Fr _ _ _ _ => Fw'); (with_unfolding_all refine' For_invVF Fw' (by exact rfl) (by exact rfl) ?_); k_whole) | ((show wpAny _ _ (pyIter (Value.ref _)) _ _ _); k_here; (rename Fr _ _ _ _ => Fw'); (rename News _ _ _ _ => Nw'); (first | (with_unfolding_all refine iter_listUnr (vs := [_]) (by rfl) Fw' Nw' (by k_mem) (by rfl) (by rfl) ?_) | (with_unfolding_all refine iter_listUnr (vs := [_, _]) (by rfl) Fw' Nw' (by k_mem) (by rfl) (by rfl) ?_)); clear Fw'; intro iw lw; (try k_lt lw)) | ((show wpAny _ _ (subscriptTail _ _ (Value.ref _) (Value.int _ _)) _ _ _); k_here; (first | k_dflt (refine' m_getT (by k_asm) (by k_mem) (by decide) (by first | decide | tb_rel) (by rfl) ?_ (by with_unfolding_all rfl)) | k_dflt (refine' m_get (by k_asm) (by k_mem) (by first | decide | tb_rel) (by first | decide | tb_rel) (by first | assumption | rfl) ?_ (by with_unfolding_all rfl) (by intro _; with_unfolding_all rfl)))) | ((show wpAny _ _ (callWith _ (Prod.fst (Value.builtin _, _)) (Prod.snd (_, _ :: _)) (backTo _ (starEach (_ :: _) _)) []) _ _ _); refine callWith_method1 ?_ (by with_unfolding_all rfl) (by with_unfolding_all rfl)) | ((show wpAny _ _ (compareOp _ (Value.str _ _) _) _ _ _); k_here; (first | ((show wpAny _ _ (compareOp CmpOp.Eq (Value.str _ _) (Value.str _ _)) _ _ _); refine m_eqS (by assumption) ?_) | ((show wpAny _ _ (compareOp CmpOp.In (Value.str _ _) (Value.ref _)) _ _ _); (first | k_dflt (refine' m_inT (by k_asm) (by k_mem) (by assumption) ?_) | k_dflt (refine' m_inTop (by k_asm) (by k_asm) (by k_is) (by kde_strs) (by first | assumption | rfl | decide) ?_))))) | ((show wpAny _ _ (binaryOp _ (Value.ref _) _) _ _ _); k_here; (first | ((show wpAny _ _ (binaryOp Operator.Add (Value.ref _) (Value.ref _)) _ _ _); k_dflt (refine' m_add (by k_asm) (by k_asm) (by k_mem) (by k_mem) (by tb_rel) (by tb_rel) ?_)) | ((show wpAny _ _ (binaryOp Operator.Mult (Value.ref _) (Value.int _ _)) _ _ _); k_dflt (refine' m_mul (by k_asm) (by k_asm) (by k_mem) (by rfl) (by omega) ?_))); intro Dw hw Fw Nw lw; (try k_lt lw); (try k_sweep))) | ((with_reducible show UnrEnd _ _ _ _ _ _ _); (rename Fr _ _ _ _ => uF); (rename News _ _ _ _ => uN); k_dflt (apply unr_off uF uN (by k_mem)); (· repeat (first | exact off_nil | (apply off_all; tbn_find) | apply off_eq | (apply off_ne; · k_ne))); refine ⟨by k_mem, ?_⟩) | walk1 | (dsimp only; walk1) | (leave1; (try dsimp only))))
              all_goals first
                | exact item_made2 (G := fun v o => ∃ t1, o = tupO [sv "set" t1, v]) (v := v) K3 ⟨_, rfl⟩ (by show 2 ≤ 1000; decide)
                | exact Value.none
                | exact (Str.ofString "")
                | exact ([] : List (Str × Addr))
                | exact (0 : Addr)
            case aft =>
              clear kF kN
              intro D ys objs nn' h' tk F' N' P
              have hys : ys.length = n := by rw [← P.length, hS]
              have hnm := names_in (T := objs) (mk := .set) (fun _ _ _ h => .set h) (fun _ h => h) P
              clear P
              replace N' := news_four (C := (_, _)) N' (.head _) (.tail _ (List.mem_append_right _ (.head _))) (.tail _ (List.mem_append_right _ (.tail _ (.tail _ (.head _)))))
              (try dsimp only)
              repeat' ((fail_if_success (with_reducible show wpAny _ _ (compareOp _ _ _) _ _ _)); (first | (k_unfold; (try dsimp only)) | (k_end; wrow_close) | (with_reducible first | ((show wpAny _ _ (call (Value.builtin _) _) _ _ _); k_here; (first | ((show wpAny _ _ (call (Value.builtin "len") _) _ _ _); (first | k_dflt (refine' m_lenL (by k_asm) (by k_mem) (by first | (show _ = (0 : Int); rfl) | (show _ = (1 : Int); rfl) | (show _ = (2 : Int); rfl) | (show _ = (3 : Int); rfl) | (show _ = (4 : Int); rfl)) (by decide) ?_) | k_dflt (refine' m_len (by k_asm) (by k_mem) (by tb_rel) ?_))) | ((first | ((show wpAny _ _ (call (Value.builtin "list.append") _) _ _ _); k_dflt (refine' m_append (by k_asm) (by k_asm) (by first | assumption | k_upd) (by tb_rel) ?_)) | ((show wpAny _ _ (call (Value.builtin "list.extend") _) _ _ _); (first | k_dflt (refine' m_extend_nil (by k_asm) (by k_asm) (by k_mem) (by k_upd) (by tb_rel) ?_) | k_dflt (refine' m_extend (by k_asm) (by k_asm) (by k_mem) (by kl_some) (by k_upd) (by tb_rel) (by tb_rel) ?_))) | ((show wpAny _ _ (call (Value.builtin "list.pop") _) _ _ _); k_dflt (refine' m_pop (by k_asm) (by k_asm) (by k_upd) (by tb_rel) ?_))); intro hw Fw Nw; (try simp only [List.cons_append, List.nil_append] at Nw); (try k_sweep)))) | ((show wpAny _ _ (setItem (Value.ref _) (Value.int _ _) _) _ _ _); k_here; k_dflt (refine' m_set (by k_asm) (by k_asm) (by k_upd) (by tb_rel) (by tb_rel) (by tb_rel) ?_); intro hw Fw Nw; (try simp only [List.cons_append, List.nil_append] at Nw); (try k_sweep)) | ((show WhlIf _ _ _); (first | (refine WhlIf.yes (decide_eq_true (by tb_rel)) ?_) | (refine WhlIf.no (decide_eq_false (by tb_rel)) ?_))) | ((first | show wpAny _ _ (exec (Stmt.For (PySem.Expr.Name _ _) (PySem.Expr.Name _ _) _ _ _) _) _ _ _ | show wpAny _ _ (exec (Stmt.For (PySem.Expr.Name _ _) (PySem.Expr.Subscript _ _ _) _ _ _) _) _ _ _); k_here; (rename Fr _ _ _ _ => Fw'); (with_unfolding_all refine' For_invVF Fw' (by exact rfl) (by exact rfl) ?_); k_whole) | ((show wpAny _ _ (pyIter (Value.ref _)) _ _ _); k_here; (rename Fr _ _ _ _ => Fw'); (rename News _ _ _ _ => Nw'); (first | (with_unfolding_all refine iter_listUnr (vs := [_]) (by rfl) Fw' Nw' (by k_mem) (by rfl) (by rfl) ?_) | (with_unfolding_all refine iter_listUnr (vs := [_, _]) (by rfl) Fw' Nw' (by k_mem) (by rfl) (by rfl) ?_)); clear Fw'; intro iw lw; (try k_lt lw)) | ((show wpAny _ _ (subscriptTail _ _ (Value.ref _) (Value.int _ _)) _ _ _); k_here; (first | k_dflt (refine' m_getT (by k_asm) (by k_mem) (by decide) (by first | decide | tb_rel) (by rfl) ?_ (by with_unfolding_all rfl)) | k_dflt (refine' m_get (by k_asm) (by k_mem) (by first | decide | tb_rel) (by first | decide | tb_rel) (by first | assumption | rfl) ?_ (by with_unfolding_all rfl) (by intro _; with_unfolding_all rfl)))) | ((show wpAny _ _ (callWith _ (Prod.fst (Value.builtin _, _)) (Prod.snd (_, _ :: _)) (backTo _ (starEach (_ :: _) _)) []) _ _ _); refine callWith_method1 ?_ (by with_unfolding_all rfl) (by with_unfolding_all rfl)) | ((show wpAny _ _ (compareOp _ (Value.str _ _) _) _ _ _); k_here; (first | ((show wpAny _ _ (compareOp CmpOp.Eq (Value.str _ _) (Value.str _ _)) _ _ _); refine m_eqS (by assumption) ?_) | ((show wpAny _ _ (compareOp CmpOp.In (Value.str _ _) (Value.ref _)) _ _ _); (first | k_dflt (refine' m_inT (by k_asm) (by k_mem) (by assumption) ?_) | k_dflt (refine' m_inTop (by k_asm) (by k_asm) (by k_is) (by kde_strs) (by first | assumption | rfl | decide) ?_))))) | ((show wpAny _ _ (binaryOp _ (Value.ref _) _) _ _ _); k_here; (first | ((show wpAny _ _ (binaryOp Operator.Add (Value.ref _) (Value.ref _)) _ _ _); k_dflt (refine' m_add (by k_asm) (by k_asm) (by k_mem) (by k_mem) (by tb_rel) (by tb_rel) ?_)) | ((show wpAny _ _ (binaryOp Operator.Mult (Value.ref _) (Value.int _ _)) _ _ _); k_dflt (refine' m_mul (by k_asm) (by k_asm) (by k_mem) (by rfl) (by omega) ?_))); intro Dw hw Fw Nw lw; (try k_lt lw); (try k_sweep))) | ((with_reducible show UnrEnd _ _ _ _ _ _ _); (rename Fr _ _ _ _ => uF); (rename News _ _ _ _ => uN); k_dflt (apply unr_off uF uN (by k_mem)); (· repeat (first | exact off_nil | (apply off_all; tbn_find) | apply off_eq | (apply off_ne; · k_ne))); refine ⟨by k_mem, ?_⟩) | walk1 | (dsimp only; walk1) | (leave1; (try dsimp only))))
              rename News _ _ _ _ => eN
              refine eq_ords eN (by k_mem) (by k_mem) (hO.mono fun p hp => ?m1) ((((marks_in (by k_mem) _).append (.one (.one (by k_mem)))).append (hnm.mono fun p hp => ?m2)).append (.one (.done (by k_mem)))) ?hu ?_
              case m1 => repeat (first | exact List.mem_append_right _ (.tail _ (.tail _ (.tail _ hp))) | apply List.Mem.tail)
              case m2 => repeat (first | exact List.mem_append_left _ hp | apply List.Mem.tail)
              case hu => ktr_units
              (try dsimp only)
              rename Fr _ _ _ _ => eF2
              exact hend _ _ _ eF2)
end Mine
theorem PySem.Challenge.cw_rh0224_01_holds : PySem.Challenge.rw_rh0224_01.Holds :=
  Mine.t1
