import PyProof.Rows.All
import Wide.All
import OpenK.AllK
import Wide.FinOn
import Lean
import PySem.Challenge.RW_nt0097_01
open PySem PySem.W PyProof.Rows
set_option Elab.async false
namespace Mine
section
-- the written part alone (no head is run here): its constant is kt9.heap_1
local macro_rules | `(tactic| o_head $_) => `(tactic| skip)
set_option maxRecDepth 100000 in
set_option maxHeartbeats 8000000 in
theorem kt9 (h : PySem.Challenge.rw_nt0097_01.row.Holds) : PySem.Challenge.rw_nt0097_01.row.Holds := by
  k_head
  exact h
end
noncomputable def vw : Program := view PySem.Challenge.pw_nt0097_01 [1, 2, 3, 4, 5, 6, 7, 8, 9, 10, 11, 12, 14, 15, 16, 18, 20, 21, 23, 25, 26, 27, 28, 29, 30, 31, 32]
open PySem.Spec PySem.Calls

-- part Df
section
/-- the three written collations -/
inductive Coll where
  | noCase
  | rtrim
  | binary
def Coll.raw : Coll → Str
  | .noCase => Str.ofString "NoCase"
  | .rtrim => Str.ofString "rtrim"
  | .binary => Str.ofString "BINARY"
def Coll.low : Coll → Str
  | .noCase => Str.ofString "nocase"
  | .rtrim => Str.ofString "rtrim"
  | .binary => Str.ofString "binary"
/-- the four written types -/
inductive CTy where
  | int
  | text
  | blob
  | dec
def CTy.raw : CTy → Str
  | .int => Str.ofString "INT"
  | .text => Str.ofString "Text"
  | .blob => Str.ofString "blob"
  | .dec => Str.ofString "DECIMAL"
def CTy.aff : CTy → Str
  | .int => Str.ofString "integer"
  | .text => Str.ofString "text"
  | .blob => Str.ofString "blob"
  | .dec => Str.ofString "numeric"
/-- the five written kinds of a column -/
inductive Kd where
  | textNocase
  | intBinary
  | blobRtrim
  | numNocase
  | noneBinary
def Kd.aff : Kd → Option Str
  | .textNocase => some (Str.ofString "text")
  | .intBinary => some (Str.ofString "integer")
  | .blobRtrim => some (Str.ofString "blob")
  | .numNocase => some (Str.ofString "numeric")
  | .noneBinary => none
def Kd.coll : Kd → Coll
  | .textNocase => .noCase
  | .intBinary => .binary
  | .blobRtrim => .rtrim
  | .numNocase => .noCase
  | .noneBinary => .binary
inductive Tree where
  | col (k : Kd)
  | lit (v : Value)
  | sign (op : Str) (t : Tree)
  | both (op : Str) (l r : Tree)
  | cast (c : CTy) (t : Tree)
  | collate (c : Coll) (t : Tree)
  | call (t : Tree)
def Tree.size : Tree → Nat
  | .col _ => 1
  | .lit _ => 1
  | .sign _ t => t.size + 1
  | .both _ l r => l.size + r.size + 1
  | .cast _ t => t.size + 1
  | .collate _ t => t.size + 1
  | .call t => t.size + 1
/-- the explicit collation, the leftmost one -/
def Tree.expl : Tree → Option Coll
  | .col _ => none
  | .lit _ => none
  | .sign _ t => t.expl
  | .both _ l r => match l.expl with | some c => some c | none => r.expl
  | .cast _ t => t.expl
  | .collate c _ => some c
  | .call _ => none
/-- the column's collation -/
def Tree.ccol : Tree → Option Coll
  | .col k => some k.coll
  | .lit _ => none
  | .sign op t => if op == Str.ofString "+" then t.ccol else none
  | .both _ _ _ => none
  | .cast _ t => t.ccol
  | .collate _ _ => none
  | .call _ => none
def Tree.aff : Tree → Option Str
  | .col k => k.aff
  | .lit _ => none
  | .sign _ _ => none
  | .both _ _ _ => none
  | .cast c _ => some c.aff
  | .collate _ t => t.aff
  | .call _ => none
def optS (t : Tok) : Option Str → Value
  | none => .none
  | some s => .str s t
def optC (t : Tok) : Option Coll → Value
  | none => .none
  | some c => .str c.low t
abbrev tupOf (vs : Array Value) (n : Nat) : Obj := { cls := .type "tuple", data := .seq vs n }
/-- the three written literals -/
def LitV (v : Value) : Prop := v = .none ∨ (∃ t, v = .int 5 t) ∨ ∃ t, v = .str (Str.ofString "x") t
/-- a drawn tree, as the ledger bears it -/
inductive TreeIn (news : List (Addr × Obj)) : Value → Tree → Prop where
  | col {a b : Addr} {t u u' : Tok} {n m : Nat} {k : Kd} : (a, tupOf #[.str (Str.ofString "column") t, .ref b] n) ∈ news → (b, tupOf #[optS u k.aff, .str k.coll.low u'] m) ∈ news → TreeIn news (.ref a) (.col k)
  | lit {a : Addr} {t : Tok} {n : Nat} {v : Value} : (a, tupOf #[.str (Str.ofString "literal") t, v] n) ∈ news → LitV v → TreeIn news (.ref a) (.lit v)
  | sign {a : Addr} {t u : Tok} {n : Nat} {op : Str} {v : Value} {d : Tree} : (a, tupOf #[.str (Str.ofString "sign") t, .str op u, v] n) ∈ news → TreeIn news v d → TreeIn news (.ref a) (.sign op d)
  | both {a : Addr} {t u : Tok} {n : Nat} {op : Str} {v v' : Value} {d d' : Tree} : (a, tupOf #[.str (Str.ofString "both") t, .str op u, v, v'] n) ∈ news → TreeIn news v d → TreeIn news v' d' → TreeIn news (.ref a) (.both op d d')
  | cast {a : Addr} {t u : Tok} {n : Nat} {c : CTy} {v : Value} {d : Tree} : (a, tupOf #[.str (Str.ofString "cast") t, .str c.raw u, v] n) ∈ news → TreeIn news v d → TreeIn news (.ref a) (.cast c d)
  | collate {a : Addr} {t u : Tok} {n : Nat} {c : Coll} {v : Value} {d : Tree} : (a, tupOf #[.str (Str.ofString "collate") t, .str c.raw u, v] n) ∈ news → TreeIn news v d → TreeIn news (.ref a) (.collate c d)
  | call {a : Addr} {t : Tok} {n : Nat} {v : Value} {d : Tree} : (a, tupOf #[.str (Str.ofString "call") t, v] n) ∈ news → TreeIn news v d → TreeIn news (.ref a) (.call d)
/-- a node built of it -/
inductive NodeIn (news : List (Addr × Obj)) : Value → Tree → Prop where
  | col {x dx : Addr} {h1 h2 h3 h4 h5 h6 h7 : Int} {t1 t2 t3 t4 t5 t6 t7 u1 u2 u3 u4 : Tok} {n : Nat} {k : Kd} : (x, instObj 109 dx) ∈ news →
      (dx, dictOf [⟨h1, .str (Str.ofString "table") t1, .none⟩, ⟨h2, .str (Str.ofString "column") t2, .str (Str.ofString "c") u1⟩, ⟨h3, .str (Str.ofString "source") t3, .none⟩, ⟨h4, .str (Str.ofString "place") t4, .none⟩, ⟨h5, .str (Str.ofString "depth") t5, .int 0 u2⟩, ⟨h6, .str (Str.ofString "affinity") t6, optS u3 k.aff⟩, ⟨h7, .str (Str.ofString "collation") t7, .str k.coll.low u4⟩] n) ∈ news →
      NodeIn news (.ref x) (.col k)
  | lit {x dx : Addr} {h1 : Int} {t1 : Tok} {n : Nat} {v : Value} : (x, instObj 83 dx) ∈ news → (dx, dictOf [⟨h1, .str (Str.ofString "value") t1, v⟩] n) ∈ news → NodeIn news (.ref x) (.lit v)
  | sign {x dx : Addr} {h1 h2 : Int} {t1 t2 u1 : Tok} {n : Nat} {op : Str} {v : Value} {d : Tree} : (x, instObj 135 dx) ∈ news →
      (dx, dictOf [⟨h1, .str (Str.ofString "op") t1, .str op u1⟩, ⟨h2, .str (Str.ofString "operand") t2, v⟩] n) ∈ news → NodeIn news v d → NodeIn news (.ref x) (.sign op d)
  | both {x dx : Addr} {h1 h2 h3 : Int} {t1 t2 t3 u1 : Tok} {n : Nat} {op : Str} {v v' : Value} {d d' : Tree} : (x, instObj 161 dx) ∈ news →
      (dx, dictOf [⟨h1, .str (Str.ofString "op") t1, .str op u1⟩, ⟨h2, .str (Str.ofString "left") t2, v⟩, ⟨h3, .str (Str.ofString "right") t3, v'⟩] n) ∈ news → NodeIn news v d → NodeIn news v' d' → NodeIn news (.ref x) (.both op d d')
  | cast {x dx : Addr} {h1 h2 : Int} {t1 t2 u1 : Tok} {n : Nat} {c : CTy} {v : Value} {d : Tree} : (x, instObj 239 dx) ∈ news →
      (dx, dictOf [⟨h1, .str (Str.ofString "value") t1, v⟩, ⟨h2, .str (Str.ofString "type_name") t2, .str c.raw u1⟩] n) ∈ news → NodeIn news v d → NodeIn news (.ref x) (.cast c d)
  | collate {x dx : Addr} {h1 h2 : Int} {t1 t2 u1 : Tok} {n : Nat} {c : Coll} {v : Value} {d : Tree} : (x, instObj 265 dx) ∈ news →
      (dx, dictOf [⟨h1, .str (Str.ofString "value") t1, v⟩, ⟨h2, .str (Str.ofString "collation") t2, .str c.raw u1⟩] n) ∈ news → NodeIn news v d → NodeIn news (.ref x) (.collate c d)
  | call {x dx : Addr} {es : List DictEntry} {n : Nat} {d : Tree} : (x, instObj 213 dx) ∈ news → (dx, dictOf es n) ∈ news → NodeIn news (.ref x) (.call d)
theorem TreeIn.mono {news news' : List (Addr × Obj)} {v : Value} {d : Tree} (h : TreeIn news v d) (hs : ∀ p ∈ news, p ∈ news') : TreeIn news' v d := by
  induction h with
  | col h1 h2 => exact .col (hs _ h1) (hs _ h2)
  | lit h1 h2 => exact .lit (hs _ h1) h2
  | sign h1 _ ih => exact .sign (hs _ h1) ih
  | both h1 _ _ ih ih' => exact .both (hs _ h1) ih ih'
  | cast h1 _ ih => exact .cast (hs _ h1) ih
  | collate h1 _ ih => exact .collate (hs _ h1) ih
  | call h1 _ ih => exact .call (hs _ h1) ih
theorem NodeIn.mono {news news' : List (Addr × Obj)} {v : Value} {d : Tree} (h : NodeIn news v d) (hs : ∀ p ∈ news, p ∈ news') : NodeIn news' v d := by
  induction h with
  | col h1 h2 => exact .col (hs _ h1) (hs _ h2)
  | lit h1 h2 => exact .lit (hs _ h1) (hs _ h2)
  | sign h1 h2 _ ih => exact .sign (hs _ h1) (hs _ h2) ih
  | both h1 h2 _ _ ih ih' => exact .both (hs _ h1) (hs _ h2) ih ih'
  | cast h1 h2 _ ih => exact .cast (hs _ h1) (hs _ h2) ih
  | collate h1 h2 _ ih => exact .collate (hs _ h1) (hs _ h2) ih
  | call h1 h2 => exact .call (hs _ h1) (hs _ h2)
abbrev TopM (mean : ExcName → Option Value) (mg mb : Str → Option Value) (h : Heap) : Prop := Top vw (looseW vw [Str.ofString "affinity_of", Str.ofString "collation_of"]) mean mg mb h
/-- what a call of the def at f with the arguments vs does, wherever it is called: it ends, and what it hands back and what the ledger then bears is Post -/
def Con (w : World) (mean : ExcName → Option Value) (mg mb : Str → Option Value) (f : Addr) (vs : List Value) (need : Nat) (news : List (Addr × Obj)) (Post : Value → List (Addr × Obj) → Prop) : Prop :=
  ∀ (dp un : Nat) (gd : Option (List Code)) (cn : Str) (cs : Scope) (a : Addr) (ccd : Value) (cl : List (Str × Addr)) (outer : List Env) (A₀ : Around) (base h₀ : Heap) (L : Addr) (m : Str → Option Value) (s : Shared)
    (Q E : Value → Shared → Prop),
    Below A₀ base outer h₀ → Fr h₀ L s.heap m → (kt9.heap_1 w.params).In h₀ → News h₀ L s.heap news → Top vw (looseW vw [Str.ofString "affinity_of", Str.ofString "collation_of"]) mean mg mb h₀ → cs.kind = .function → dp + need < recursionLimit → un + 8 * need < cLine →
    (∀ r news' h' tk', Fr h₀ L h' m → News h₀ L h' news' → Post r news' → Q r { s with heap := h', toks := tk' }) →
    wpAny (model PySem.Challenge.rw_nt0097_01.row.prog w) (ktrTop dp un gd cn cs L a ccd cl outer) (call (.ref f) vs) Q E s
/-- a call that leaves nothing that is asked for: what it hands back is P -/
abbrev ConV (w : World) (mean : ExcName → Option Value) (mg mb : Str → Option Value) (f : Addr) (vs : List Value) (need : Nat) (news : List (Addr × Obj)) (P : Value → Prop) : Prop :=
  Con w mean mg mb f vs need news fun r news' => news' = news ∧ P r
theorem useV {w : World} {mean : ExcName → Option Value} {mg mb : Str → Option Value} {f : Addr} {vs : List Value} {need : Nat} {news : List (Addr × Obj)} {P : Value → Prop} {dp un : Nat} {gd : Option (List Code)} {cn : Str} {cs : Scope} {a : Addr} {ccd : Value} {cl : List (Str × Addr)} {outer : List Env} {A₀ : Around} {base h₀ : Heap} {L : Addr} {m : Str → Option Value} {s : Shared}
    {Q E : Value → Shared → Prop} (B : Below A₀ base outer h₀) (F : Fr h₀ L s.heap m) (X : (kt9.heap_1 w.params).In h₀) (N : News h₀ L s.heap news) (T : Top vw (looseW vw [Str.ofString "affinity_of", Str.ofString "collation_of"]) mean mg mb h₀) (hk : cs.kind = .function)
    (C : ConV w mean mg mb f vs need news P) (hd : dp + need < recursionLimit) (hu : un + 8 * need < cLine)
    (ret : ∀ r h' tk', Fr h₀ L h' m → News h₀ L h' news → P r → Q r { s with heap := h', toks := tk' }) :
    wpAny (model PySem.Challenge.rw_nt0097_01.row.prog w) (ktrTop dp un gd cn cs L a ccd cl outer) (call (.ref f) vs) Q E s :=
  C _ _ _ _ _ _ _ _ _ _ _ _ _ _ _ _ _ B F X N T hk hd hu fun r _ h' tk' F' N' p => ret r h' tk' F' (p.1 ▸ N') p.2
end

-- part Df2
section
theorem endV {news : List (Addr × Obj)} {h₀ : Heap} {L : Addr} {m : Str → Option Value} {P : Value → Prop} {Q : Value → Shared → Prop} {s : Shared} {h' : Heap} {tk : Nat}
  (hret : ∀ r news' h' tk', Fr h₀ L h' m → News h₀ L h' news' → (news' = news ∧ P r) → Q r { s with heap := h', toks := tk' }) {r : Value} {news' : List (Addr × Obj)}
  (F : Fr h₀ L h' m) (N : News h₀ L h' news') (hn : ∀ p ∈ news, p ∈ news') (hp : P r) : Q r { s with heap := h', toks := tk } :=
  hret r news h' tk F (fun p hp => N p (hn p hp)) ⟨rfl, hp⟩
end

-- part Cs
section
section
variable {prog : Program} {w : World} {A : Around} {E : Value → Shared → Prop} {s : Shared} {h₀ : Heap} {L : Addr} {m : Str → Option Value} {env : Env}
/-- what is left of a comprehension over a written text's signs -/
def StrTurns (prog : Program) (w : World) (A : Around) (h₀ : Heap) (L : Addr) (m : Str → Option Value) (env : Env) (elt : PySem.Expr) (x : Str) (scope : Scope) (cl : List (Str × Addr)) (s : Shared)
    (Fin : List Value → List (Addr × Obj) → Prop) : List Str → List Value → List (Addr × Obj) → Prop
  | [], ys, news => Fin ys news
  | c :: r, ys, news => ∀ t I oI C oC D m₂ h tk (E' : Value → Shared → Prop), LCg.NsObj oC m₂ → m₂ x = some (.str c t) → Fr h₀ L h m → News h₀ L h ((I, oI) :: (C, oC) :: (D, LCg.lst ys) :: news) → LCg.Off3 I C D news → ((@Ne Nat I C) ∧ (@Ne Nat I D) ∧ (@Ne Nat C D)) →
      wpAny (model prog w) A (eval elt (compEnvC scope cl C env)) (LCg.CompEnd h₀ L m { s with heap := h, toks := tk } I oI C oC D (LCg.lst ys) (fun _ => True) (fun y news' => StrTurns prog w A h₀ L m env elt x scope cl s Fin r (ys ++ [y]) news')) E' { s with heap := h, toks := tk }
theorem StrTurns.zero {elt : PySem.Expr} {x : Str} {scope : Scope} {cl : List (Str × Addr)} {Fin : List Value → List (Addr × Obj) → Prop} {ys : List Value} {news : List (Addr × Obj)} (h : Fin ys news) : StrTurns prog w A h₀ L m env elt x scope cl s Fin [] ys news := h
theorem StrTurns.succ {elt : PySem.Expr} {x : Str} {scope : Scope} {cl : List (Str × Addr)} {Fin : List Value → List (Addr × Obj) → Prop} {c : Str} {r : List Str} {ys : List Value} {news : List (Addr × Obj)}
    (h : ∀ t I oI C oC D m₂ h tk (E' : Value → Shared → Prop), LCg.NsObj oC m₂ → m₂ x = some (.str c t) → Fr h₀ L h m → News h₀ L h ((I, oI) :: (C, oC) :: (D, LCg.lst ys) :: news) → LCg.Off3 I C D news → ((@Ne Nat I C) ∧ (@Ne Nat I D) ∧ (@Ne Nat C D)) →
      wpAny (model prog w) A (eval elt (compEnvC scope cl C env)) (LCg.CompEnd h₀ L m { s with heap := h, toks := tk } I oI C oC D (LCg.lst ys) (fun _ => True) (fun y news' => StrTurns prog w A h₀ L m env elt x scope cl s Fin r (ys ++ [y]) news')) E' { s with heap := h, toks := tk }) :
    StrTurns prog w A h₀ L m env elt x scope cl s Fin (c :: r) ys news := h
def SignIs (l : List Str) (i : Nat) (v : Value) : Prop := ∃ c t, l[i]? = some c ∧ v = .str c t
theorem strTurns_rest {elt : PySem.Expr} {x : Str} {scope : Scope} {cl : List (Str × Addr)} {Fin : List Value → List (Addr × Obj) → Prop} {l : List Str} : ∀ (r : List Str) (i : Nat) (ys : List Value) (news : List (Addr × Obj)), l.drop i = r →
    StrTurns prog w A h₀ L m env elt x scope cl s Fin r ys news → LCg.CompRest prog w A h₀ L m env elt x scope cl s (fun _ => True) (SignIs l) Fin r.length i ys news := by
  intro r
  induction r with
  | nil => intro i ys news _ h; exact LCg.CompRest.zero h
  | cons c r ih =>
    intro i ys news hd h
    refine LCg.CompRest.succ ?_
    rintro v I oI C oC D m₂ hh tk E' ⟨c', t, hc, rfl⟩ hC hx F N off ne
    have e1 : l[i]? = some c := by
      have : (l.drop i)[0]? = some c := by rw [hd]; rfl
      rwa [List.getElem?_drop, Nat.add_zero] at this
    have e2 : l.drop (i + 1) = r := by
      have := congrArg List.tail hd
      rwa [List.tail_drop] at this
    rw [e1] at hc
    cases hc
    refine wpAny_mono (h t I oI C oC D m₂ hh tk E' hC hx F N off ne) (fun y s₂ q => ?_) fun _ _ e => e
    obtain ⟨h', tk', nw, e, F', N', off', hS, q⟩ := q
    exact ⟨h', tk', nw, e, F', N', off', hS, ih (i + 1) _ _ e2 q⟩
theorem sign_walks {I : Addr} {tx : Str} {l : List Str} {n : Nat} {St : Nat → Heap → Prop} (W : Walks prog w A I [I] [I] n (SignAt tx) St) (hl : tx.cps.toList.map (fun c => (⟨#[c]⟩ : Str)) = l) : Walks prog w A I [I] [I] n (SignIs l) St :=
  { sub := W.sub, frame := W.frame, done := W.done, self := W.self,
    item := fun i s Q E hi st hQ => W.item i s Q E hi st fun v h' tk hP => hQ v h' tk (by
      obtain ⟨c, u, hc, rfl⟩ := hP
      exact ⟨_, u, by rw [← hl, List.getElem?_map, Array.getElem?_toList, hc]; rfl, rfl⟩) }
def CompStr (prog : Program) (w : World) (A : Around) (h₀ : Heap) (L : Addr) (m : Str → Option Value) (env : Env) (elt : PySem.Expr) (x : Str) (scope : Scope) (cl : List (Str × Addr)) (tx : Str) (l : List Str) (Q : Value → Shared → Prop) (xv : Value) (s₁ : Shared) : Prop :=
  ∃ t news, xv = .str tx t ∧ A.handled = none ∧ Fr h₀ L s₁.heap m ∧ News h₀ L s₁.heap news ∧ ∀ h, StrTurns prog w A h₀ L m env elt x scope cl { s₁ with heap := h } (LCg.FinE h₀ L m { s₁ with heap := h } Q) l [] news
theorem CompStr.intro {elt : PySem.Expr} {x : Str} {scope : Scope} {cl : List (Str × Addr)} {tx : Str} {l : List Str} {Q : Value → Shared → Prop} {t : Tok} {s₁ : Shared} {news : List (Addr × Obj)} (hh : A.handled = none) (F : Fr h₀ L s₁.heap m) (N : News h₀ L s₁.heap news)
    (h : ∀ h, StrTurns prog w A h₀ L m env elt x scope cl { s₁ with heap := h } (LCg.FinE h₀ L m { s₁ with heap := h } Q) l [] news) : CompStr prog w A h₀ L m env elt x scope cl tx l Q (.str tx t) s₁ := ⟨t, news, rfl, hh, F, N, h⟩
theorem ListComp_str {elt iter : PySem.Expr} {x : Str} {px : Pos} {scope : Scope} {cl : List (Str × Addr)} {pos : Pos} {Q : Value → Shared → Prop} (tx : Str) (l : List Str) (hl : tx.cps.toList.map (fun c => (⟨#[c]⟩ : Str)) = l) (ha : tx.cps.all (· < 128) = true) (hsz : tx.cps.size ≤ sizeLine)
    (F₀ : Fr h₀ L s.heap m)
    (hclos : closureFor scope env = pure cl) (hcell : ∀ y ∈ scope.names, y.2 ≠ .cell) (hkind : scope.kind = .function)
    (hnames : ∀ y ∈ scope.names, y.2 = .local → scope.names.lookup y.1 = some .local) (hx : scope.names.lookup x = some .local)
    (h : wpAny (model prog w) A (eval iter env) (CompStr prog w A h₀ L m env elt x scope cl tx l Q) E s)
    (hs : ∀ x, foldedSetIterable iter env x = pure x := by intro _; rfl) :
    wpAny (model prog w) A (eval (.ListComp elt [⟨.Name x px, iter, [], 0⟩] scope pos) env) Q E s := by
  rw [eval_ListComp]
  refine wpAny_comprehension_free (use := none) rfl hs hclos hkind hnames (wpAny_mono h (fun xv s₁ h₁ => ?_) fun _ _ e => e)
  obtain ⟨t, news, rfl, hh, F, N, R⟩ := h₁
  have hlen : l.length = tx.cps.size := by rw [← hl, List.length_map, Array.length_toList]
  refine wpAny_pyIter_ascii ha ?_
  refine LCg.block_U (sign_walks (Walks.strAscii hh s₁.heap.objs.size tx t) hl) hsz (fun i h st => by obtain ⟨o, e, _⟩ := st; exact ⟨o, e⟩)
    (fun i h h' o nw st e e' _ _ _ => by obtain ⟨o', q, r⟩ := st; rw [e] at q; cases q; exact ⟨o, e', r⟩) hcell hkind hx ⟨_, Heap.get?_push_size _ rfl, rfl, rfl⟩ (fun b hb => ?_)
    (F.keeps fun _ _ e => Heap.get?_push_of_some _ e) (N.grown fun _ _ e => Heap.get?_push_of_some _ e) (Nat.ne_of_lt F.ns.lt) (next_is_new F) (fun p hp => Nat.ne_of_lt (Heap.lt_size (N p hp).1)) trivial
    (hlen ▸ strTurns_rest l 0 [] news rfl (R _)) ?_
  · rw [List.mem_singleton.mp hb]
    show s₁.heap.objs.size < (s₁.heap.push _).objs.size
    rw [Heap.size_push]; exact Nat.lt_succ_self _
  · intro D C h tk m' ys news' F' N' o1 hn hC₀ hD₀ hCL hDL hCD offC fin
    refine ⟨m', hn, fun h'' hs'' => fin D h'' tk (F'.change hs'' hCL hC₀) (fun p hp => ?_) o1⟩
    refine ⟨hs''.extBut _ _ ?_ (N' p hp).1, (N' p hp).2⟩
    rcases List.mem_cons.mp hp with rfl | hp
    · exact Ne.symm hCD
    · exact offC p hp
end
end

-- part Sl
section
section
variable {prog : Program} {w : World} {A : Around} {E : Value → Shared → Prop} {s : Shared} {h₀ : Heap} {L : Addr} {m : Str → Option Value} {news : List (Addr × Obj)}
theorem adjust_upto (b n : Nat) (hb : b ≤ n) : Builtin.Slice.sliceAdjust none (some (b : Int)) 1 (n : Int) = (0, (b : Int)) := by
  unfold Builtin.Slice.sliceAdjust
  have h1 : ¬ ((1 : Int) < 0) := by omega
  have h2 : ¬ ((b : Int) < 0) := by omega
  simp only [h1, h2, if_false]
  congr 1
  omega
theorem places_upto (b : Nat) : Builtin.Slice.slicePlaces 0 (b : Int) 1 = b := by
  unfold Builtin.Slice.slicePlaces
  have h1 : (1 : Int) > 0 := by omega
  simp only [h1, if_true, Int.ediv_one]
  split <;> omega
theorem sliceApplied_upto {sl : Addr} {b n : Nat} {u : Tok} {Q : Int × Int × Nat → Shared → Prop} (hs : s.heap.IsSliceOf sl .none (.int b u) .none) (hb : b ≤ n) (h : Q (0, 1, b) s) :
    wpAny (model prog w) A (Builtin.Slice.sliceApplied (.ref sl) (pure (n : Int))) Q E s := by
  obtain ⟨os, hos, hcs, hds⟩ := id hs
  unfold Builtin.Slice.sliceApplied Builtin.Slice.sliceFields
  refine wpAny_bind (wpAny_bind (wpAny_field hos hds (x := .none) rfl (wpAny_bind (wpAny_field hos hds (x := .int b u) rfl (wpAny_bind (wpAny_field hos hds (x := .none) rfl (wpAny_pure ?_)))))))
  refine wpAny_bind (slicePart_none ?_)
  show wpAny _ _ (if ((1 : Int) == 0) = true then _ else _) _ _ s
  rw [if_neg (by decide)]
  refine wpAny_bind (slicePart_none (wpAny_bind (slicePart_int (wpAny_bind (wpAny_pure ?_)))))
  show wpAny _ _ (match Builtin.Slice.sliceAdjust none (some (b : Int)) 1 (n : Int) with | (lo, hi) => pure (lo, (1 : Int), Builtin.Slice.slicePlaces lo hi 1)) _ _ s
  rw [adjust_upto b n hb]
  show wpAny _ _ (pure ((0 : Int), (1 : Int), Builtin.Slice.slicePlaces 0 (b : Int) 1)) _ _ s
  rw [places_upto b]
  exact wpAny_pure h
theorem getItem_two {t sl : Addr} {x y z : Value} {r : List Value} {u : Tok} {Q : Value → Shared → Prop} (ht : IsTup s.heap t (x :: y :: z :: r).toArray) (hs : s.heap.IsSliceOf sl .none (.int 2 u) .none)
    (h : Q (.ref s.heap.objs.size) { s with heap := s.heap.push { cls := .type "tuple", data := .seq #[x, y] } }) : wpAny (model prog w) A (getItem (.ref t) (.ref sl)) Q E s := by
  have hdrop : sizeOk (.seq #[x, y]) := by
    show 2 ≤ sizeLine
    rw [sizeLine_eq]; decide
  obtain ⟨os, hos, hcs, hds⟩ := id hs
  have hTs : s.TypeIs (.ref sl) "slice" := ⟨os, hos, hcs⟩
  unfold getItem
  try with_reducible refine wpAny_holding ?_
  first | refine wpAny_bind (wpAny_pure ?_) | skip
  refine wpAny_bind (wpAny_sequenceKey ht.typeIs (by decide) ?_)
  refine wpAny_bind (wpAny_callSpecial?_slot (name := Str.ofString "__getitem__") ht.typeIs slot_tuple_getitem
    (wpAny_call_entry slot_tuple_getitem ht.typeIs entry_tuple_getitem ?_ (args_tuple_getitem _ _)))
  show wpAny _ _ (Builtin.Tuple.tupleItemsOf (.ref t) >>= _) _ _ s
  refine wpAny_bind (tupleItemsOf_ ht ?_)
  refine wpAny_bind (wpAny_typeOf hTs ?_)
  rw [if_pos (by decide)]
  refine wpAny_bind (sliceApplied_upto (b := 2) hs (by simp) ?_)
  show wpAny _ _ (if ((0 : Int) == 0 && (1 : Int) == 1 && 2 == (x :: y :: z :: r).toArray.size) = true then _ else _) _ _ s
  have hno : ¬ (((0 : Int) == 0 && (1 : Int) == 1 && 2 == (x :: y :: z :: r).toArray.size) = true) := by simp
  have e : ((List.range 2).filterMap fun (k : Nat) => (x :: y :: z :: r).toArray[((0 : Int) + (k : Int) * 1).toNat]?).toArray = #[x, y] := rfl
  rw [if_neg hno, e]
  first
    | exact wpAny_bind (m := Builtin.Tuple.tupleExact _) (wpAny_newObj_type (wpAny_pure ⟨_, rfl, wpAny_pure h⟩) hdrop)
    | exact wpAny_bind (m := Builtin.Tuple.tupleExact _) (wpAny_newObj_type (wpAny_bind (wpAny_pure (wpAny_pure ⟨_, rfl, wpAny_pure h⟩))) hdrop)
    | exact wpAny_bind (wpAny_bind (m := Builtin.Tuple.tupleExact _) (wpAny_newObj_type (wpAny_pure (wpAny_pure ⟨_, rfl, wpAny_pure h⟩)) hdrop))
    | exact wpAny_bind (wpAny_bind (m := Builtin.Tuple.tupleExact _) (wpAny_newObj_type (wpAny_pure ⟨_, rfl, wpAny_pure h⟩) hdrop))
theorem getItem_whole {t sl : Addr} {x y : Value} {u : Tok} {Q : Value → Shared → Prop} (ht : IsTup s.heap t [x, y].toArray) (hs : s.heap.IsSliceOf sl .none (.int 2 u) .none)
    (h : Q (.ref t) s) : wpAny (model prog w) A (getItem (.ref t) (.ref sl)) Q E s := by
  obtain ⟨os, hos, hcs, hds⟩ := id hs
  have hTs : s.TypeIs (.ref sl) "slice" := ⟨os, hos, hcs⟩
  unfold getItem
  try with_reducible refine wpAny_holding ?_
  first | refine wpAny_bind (wpAny_pure ?_) | skip
  refine wpAny_bind (wpAny_sequenceKey ht.typeIs (by decide) ?_)
  refine wpAny_bind (wpAny_callSpecial?_slot (name := Str.ofString "__getitem__") ht.typeIs slot_tuple_getitem
    (wpAny_call_entry slot_tuple_getitem ht.typeIs entry_tuple_getitem ?_ (args_tuple_getitem _ _)))
  show wpAny _ _ (Builtin.Tuple.tupleItemsOf (.ref t) >>= _) _ _ s
  refine wpAny_bind (tupleItemsOf_ ht ?_)
  refine wpAny_bind (wpAny_typeOf hTs ?_)
  rw [if_pos (by decide)]
  refine wpAny_bind (sliceApplied_upto (b := 2) hs (by simp) ?_)
  show wpAny _ _ (if ((0 : Int) == 0 && (1 : Int) == 1 && 2 == [x, y].toArray.size) = true then _ else _) _ _ s
  rw [if_pos (by simp)]
  refine wpAny_bind (wpAny_bind (wpAny_typeOf ht.typeIs ?_))
  refine wpAny_pure ?_
  rw [if_pos (by decide)]
  first
    | exact wpAny_bind (wpAny_rule (wpAny_pure ⟨_, rfl, wpAny_pure h⟩))
    | exact wpAny_bind (wpAny_rule (wpAny_bind (wpAny_pure (wpAny_pure ⟨_, rfl, wpAny_pure h⟩))))
    | exact wpAny_bind (wpAny_rule (wpAny_bind (wpAny_pure ⟨_, rfl, wpAny_pure h⟩)))
theorem slice_two {value slice : PySem.Expr} {t : Addr} {x y z : Value} {r : List Value} {u : Tok} {Q : Value → Shared → Prop}
    (F : Fr h₀ L s.heap m) (N : News h₀ L s.heap news) (ht : IsTup s.heap t (x :: y :: z :: r).toArray)
    (h : ∀ D h', Fr h₀ L h' m → News h₀ L h' ((D, tupOf #[x, y] 0) :: news) → Q (.ref D) { s with heap := h' })
    (hs : subscripted slice false (.ref t) (.ref s.heap.objs.size) = operate [.ref s.heap.objs.size, .ref t] (getItem (.ref t) (.ref s.heap.objs.size)) := by with_unfolding_all rfl)
    (hg : ∀ r, letTemporaryGo value (.ref t) r = pure () := by intro _; with_unfolding_all rfl) :
    wpAny (model prog w) A (subscriptTail value slice (.ref t) (.ref s.heap.objs.size)) Q E { s with heap := s.heap.push { cls := .type "slice", data := .fields #[.none, .int 2 u, .none] } } := by
  have ht' : IsTup (s.heap.push { cls := .type "slice", data := .fields #[.none, .int 2 u, .none] }) t (x :: y :: z :: r).toArray := ht.keeps fun _ _ e => Heap.get?_push_of_some _ e
  refine subscriptTail_ops (s := { s with heap := s.heap.push { cls := .type "slice", data := .fields #[.none, .int 2 u, .none] } }) ht'.typeIs slot_tuple_getitem.lookup
    (getItem_two ht' (Heap.IsSliceOf.new ..) ?_) hs hg
  have N1 := News.push (F.push { cls := .type "slice", data := .fields #[.none, .int 2 u, .none] }) (N.grown fun _ _ e => Heap.get?_push_of_some _ e) { cls := .type "tuple", data := .seq #[x, y] }
  rw [Heap.size_push] at N1
  show Q (.ref (s.heap.push _).objs.size) _
  rw [Heap.size_push]
  exact h _ _ ((F.push _).push _) N1
theorem slice_whole {value slice : PySem.Expr} {t : Addr} {x y : Value} {u : Tok} {Q : Value → Shared → Prop}
    (F : Fr h₀ L s.heap m) (N : News h₀ L s.heap news) (ht : IsTup s.heap t [x, y].toArray)
    (h : ∀ h', Fr h₀ L h' m → News h₀ L h' news → Q (.ref t) { s with heap := h' })
    (hs : subscripted slice false (.ref t) (.ref s.heap.objs.size) = operate [.ref s.heap.objs.size, .ref t] (getItem (.ref t) (.ref s.heap.objs.size)) := by with_unfolding_all rfl)
    (hg : ∀ r, letTemporaryGo value (.ref t) r = pure () := by intro _; with_unfolding_all rfl) :
    wpAny (model prog w) A (subscriptTail value slice (.ref t) (.ref s.heap.objs.size)) Q E { s with heap := s.heap.push { cls := .type "slice", data := .fields #[.none, .int 2 u, .none] } } := by
  have ht' : IsTup (s.heap.push { cls := .type "slice", data := .fields #[.none, .int 2 u, .none] }) t [x, y].toArray := ht.keeps fun _ _ e => Heap.get?_push_of_some _ e
  refine subscriptTail_ops (s := { s with heap := s.heap.push { cls := .type "slice", data := .fields #[.none, .int 2 u, .none] } }) ht'.typeIs slot_tuple_getitem.lookup
    (getItem_whole ht' (Heap.IsSliceOf.new ..) ?_) hs hg
  exact h _ (F.push _) (N.grown fun _ _ e => Heap.get?_push_of_some _ e)
theorem TreeIn.tup {news : List (Addr × Obj)} {v : Value} {d : Tree} (R : TreeIn news v d) : ∃ a vs n, v = .ref a ∧ (a, tupOf vs n) ∈ news := by
  cases R with
  | col h _ => exact ⟨_, _, _, rfl, h⟩
  | lit h _ => exact ⟨_, _, _, rfl, h⟩
  | sign h _ => exact ⟨_, _, _, rfl, h⟩
  | both h _ _ => exact ⟨_, _, _, rfl, h⟩
  | cast h _ => exact ⟨_, _, _, rfl, h⟩
  | collate h _ => exact ⟨_, _, _, rfl, h⟩
  | call h _ => exact ⟨_, _, _, rfl, h⟩
theorem isTuple_of {a : Addr} {vs : Array Value} {n : Nat} (N : News h₀ L s.heap news) (h : (a, tupOf vs n) ∈ news) : s.heap.IsTuple a vs := ⟨_, (N _ h).1, rfl, _, rfl⟩
/-- two pairs, the right one of texts -/
theorem eq_pair {l b : Addr} {x1 x2 : Value} {y z : Str} {t u : Tok} {n k : Nat} {e1 e2 : Bool} {Q : Value → Shared → Prop} (N : News h₀ L s.heap news) (hl : (l, tupOf #[x1, x2] n) ∈ news) (hb : (b, tupOf #[.str y t, .str z u] k) ∈ news) (hu : A.units < cLine)
    (h1 : SeqAt.EqAt A.in1 s x1 (.str y t) e1) (h2 : SeqAt.EqAt A.in1 s x2 (.str z u) e2) (h : Q (.bool (e1 && e2)) s) : wpAny (model prog w) A (compareOp .Eq (.ref l) (.ref b)) Q E s := by
  refine SeqAt.eq_tupleAt (e := fun j => if j = 0 then e1 else e2) (isTuple_of N hl) (isTuple_of N hb) hu (fun j hj1 hj2 => ?_) ?_
  · match j, hj1 with
    | 0, _ => exact h1
    | 1, _ => exact h2
    | j + 2, hj => exact absurd hj (by simp)
  · have e : ((List.range (min (#[x1, x2] : Array Value).size (#[Value.str y t, Value.str z u] : Array Value).size)).all (fun j => if j = 0 then e1 else e2) && (#[x1, x2] : Array Value).size == (#[Value.str y t, Value.str z u] : Array Value).size) = (e1 && e2) := by
      cases e1 <;> cases e2 <;> rfl
    rw [e]
    exact h
theorem eqAt_lit {A : Around} {s : Shared} {v : Value} {z : Str} {u : Tok} (h : LitV v) : ∃ e, SeqAt.EqAt A s v (.str z u) e := by
  rcases h with rfl | ⟨t, rfl⟩ | ⟨t, rfl⟩
  · exact ⟨_, SeqAt.EqAt.none_str _ _⟩
  · exact ⟨_, SeqAt.EqAt.int_str _ _ _ _⟩
  · exact ⟨_, SeqAt.EqAt.str_str _ _ _ _⟩
theorem eqAt_tree {A : Around} {v : Value} {z : Str} {u : Tok} {d : Tree} (N : News h₀ L s.heap news) (R : TreeIn news v d) (hu : A.units < cLine) : ∃ e, SeqAt.EqAt A s v (.str z u) e := by
  obtain ⟨a, vs, n, rfl, h⟩ := R.tup
  exact ⟨_, SeqAt.EqAt.tuple_str _ _ (isTuple_of N h) hu⟩
theorem eq_pair_no {l b : Addr} {x y z : Str} {x2 : Value} {t0 t u : Tok} {n k : Nat} {Q : Value → Shared → Prop} (N : News h₀ L s.heap news) (hl : (l, tupOf #[.str x t0, x2] n) ∈ news) (hb : (b, tupOf #[.str y t, .str z u] k) ∈ news) (hu : A.units < cLine)
    (h1 : (x == y) = false) (h2 : ∃ e, SeqAt.EqAt A.in1 s x2 (.str z u) e) (h : Q (.bool false) s) : wpAny (model prog w) A (compareOp .Eq (.ref l) (.ref b)) Q E s := by
  obtain ⟨e, h2⟩ := h2
  exact eq_pair N hl hb hu (SeqAt.EqAt.str_str _ _ _ _) h2 (by rw [h1]; exact h)
theorem eq_pair_yes {l b : Addr} {x y z : Str} {t0 t1 t u : Tok} {n k : Nat} {Q : Value → Shared → Prop} (N : News h₀ L s.heap news) (hl : (l, tupOf #[.str x t0, .str z t1] n) ∈ news) (hb : (b, tupOf #[.str x t, .str y u] k) ∈ news) (hu : A.units < cLine)
    (h : Q (.bool (z == y)) s) : wpAny (model prog w) A (compareOp .Eq (.ref l) (.ref b)) Q E s :=
  eq_pair N hl hb hu (SeqAt.EqAt.str_str _ _ _ _) (SeqAt.EqAt.str_str _ _ _ _) (by rw [beq_self_eq_true, Bool.true_and]; exact h)
end
end

-- part Kt
section
/-- a call that makes a list -/
abbrev ConL (w : World) (mean : ExcName → Option Value) (mg mb : Str → Option Value) (f : Addr) (vs : List Value) (need : Nat) (news : List (Addr × Obj)) (P : List Value → Prop) : Prop :=
  Con w mean mg mb f vs need news fun r news' => ∃ a us n, r = .ref a ∧ news' = (a, W.listOf us.toArray n) :: news ∧ P us
theorem useL {w : World} {mean : ExcName → Option Value} {mg mb : Str → Option Value} {f : Addr} {vs : List Value} {need : Nat} {news : List (Addr × Obj)} {P : List Value → Prop} {dp un : Nat} {gd : Option (List Code)} {cn : Str} {cs : Scope} {a : Addr} {ccd : Value} {cl : List (Str × Addr)} {outer : List Env} {A₀ : Around} {base h₀ : Heap} {L : Addr} {m : Str → Option Value} {s : Shared}
    {Q E : Value → Shared → Prop} (B : Below A₀ base outer h₀) (F : Fr h₀ L s.heap m) (X : (kt9.heap_1 w.params).In h₀) (N : News h₀ L s.heap news) (T : Top vw (looseW vw [Str.ofString "affinity_of", Str.ofString "collation_of"]) mean mg mb h₀) (hk : cs.kind = .function)
    (C : ConL w mean mg mb f vs need news P) (hd : dp + need < recursionLimit) (hu : un + 8 * need < cLine)
    (ret : ∀ a us n h' tk', Fr h₀ L h' m → News h₀ L h' ((a, W.listOf us.toArray n) :: news) → P us → Q (.ref a) { s with heap := h', toks := tk' }) :
    wpAny (model PySem.Challenge.rw_nt0097_01.row.prog w) (ktrTop dp un gd cn cs L a ccd cl outer) (call (.ref f) vs) Q E s :=
  C _ _ _ _ _ _ _ _ _ _ _ _ _ _ _ _ _ B F X N T hk hd hu fun r news' h' tk' F' N' p => by
    obtain ⟨a, us, n, rfl, rfl, p⟩ := p
    exact ret a us n h' tk' F' N' p
theorem endL {news : List (Addr × Obj)} {h₀ : Heap} {L : Addr} {m : Str → Option Value} {P : List Value → Prop} {Q : Value → Shared → Prop} {s : Shared} {h' : Heap} {tk : Nat}
  (hret : ∀ r news' h' tk', Fr h₀ L h' m → News h₀ L h' news' → (∃ a us n, r = .ref a ∧ news' = (a, W.listOf us.toArray n) :: news ∧ P us) → Q r { s with heap := h', toks := tk' }) {a : Addr} {us : List Value} {n : Nat} {news' : List (Addr × Obj)}
  (F : Fr h₀ L h' m) (N : News h₀ L h' ((a, W.listOf us.toArray n) :: news')) (hn : ∀ p ∈ news, p ∈ news') (hp : P us) : Q (.ref a) { s with heap := h', toks := tk } :=
  hret _ ((a, W.listOf us.toArray n) :: news) h' tk F (fun p hp => N p ((List.mem_cons.mp hp).elim (fun e => e ▸ .head _) fun h => .tail _ (hn p h))) ⟨a, us, n, rfl, rfl, hp⟩
def KidL (w : World) (mean : ExcName → Option Value) (mg mb : Str → Option Value) (f : Addr) (vs : List Value) (need : Nat) (news₀ : List (Addr × Obj)) (P : List Value → Prop) : Prop :=
  ∀ news, (∀ p ∈ news₀, p ∈ news) → ConL w mean mg mb f vs need news P
theorem useKidL {w : World} {mean : ExcName → Option Value} {mg mb : Str → Option Value} {f : Addr} {vs : List Value} {need : Nat} {news₀ news : List (Addr × Obj)} {P : List Value → Prop} {dp un : Nat} {gd : Option (List Code)} {cn : Str} {cs : Scope} {a : Addr} {ccd : Value} {cl : List (Str × Addr)} {outer : List Env} {A₀ : Around} {base h₀ : Heap} {L : Addr} {m : Str → Option Value} {s : Shared}
    {Q E : Value → Shared → Prop} (B : Below A₀ base outer h₀) (F : Fr h₀ L s.heap m) (X : (kt9.heap_1 w.params).In h₀) (N : News h₀ L s.heap news) (T : Top vw (looseW vw [Str.ofString "affinity_of", Str.ofString "collation_of"]) mean mg mb h₀) (hk : cs.kind = .function)
    (C : KidL w mean mg mb f vs need news₀ P) (hs : ∀ p ∈ news₀, p ∈ news) (hd : dp + need < recursionLimit) (hu : un + 8 * need < cLine)
    (ret : ∀ a us n h' tk', Fr h₀ L h' m → News h₀ L h' ((a, W.listOf us.toArray n) :: news) → P us → Q (.ref a) { s with heap := h', toks := tk' }) :
    wpAny (model PySem.Challenge.rw_nt0097_01.row.prog w) (ktrTop dp un gd cn cs L a ccd cl outer) (call (.ref f) vs) Q E s := useL B F X N T hk (C _ hs) hd hu ret
theorem add_L {prog : Program} {w : World} {A : Around} {E : Value → Shared → Prop} {s : Shared} {h₀ : Heap} {L a b : Addr} {m : Str → Option Value} {news : List (Addr × Obj)} {us vs : List Value} {n k : Nat} {Q : Value → Shared → Prop} (F : Fr h₀ L s.heap m) (N : News h₀ L s.heap news)
    (h1 : (a, W.listOf us.toArray n) ∈ news) (h2 : (b, W.listOf vs.toArray k) ∈ news)
    (h : ∀ D h', Fr h₀ L h' m → News h₀ L h' ((D, W.listOf (us ++ vs).toArray 0) :: news) → Q (.ref D) { s with heap := h' }) (hz : us.length + vs.length ≤ sizeLine) : wpAny (model prog w) A (binaryOp .Add (.ref a) (.ref b)) Q E s :=
  add_lists F N ⟨_, (N _ h1).1, rfl, _, rfl⟩ ⟨_, (N _ h2).1, rfl, _, rfl⟩ (fun h' F' N' => h _ h' F' N') hz
end

-- part Kd
section
/-- what _law_told hands back for d -/
def ToldVs (d : Tree) (vs : List Value) : Prop := vs.length ≤ d.size ∧ match d.expl with | none => vs = [] | some c => ∃ t r, vs = .str c.low t :: r
/-- what _law_column hands back -/
def ColVs (d : Tree) (us : List Value) : Prop := us.length ≤ 1 ∧ match d.ccol with | none => us = [] | some c => ∃ t r, us = .str c.low t :: r
def ConN (w : World) (mean : ExcName → Option Value) (mg mb : Str → Option Value) (f : Addr) (vs : List Value) (need : Nat) (news : List (Addr × Obj)) (d : Tree) : Prop :=
  Con w mean mg mb f vs need news fun r news' => ∃ tl, news' = tl ++ news ∧ NodeIn news' r d
/-- the two ints that _law_take draws from -/
def SrcOk (a b : Int) : Prop := 0 ≤ a ∧ 0 ≤ b ∧ b < 2147483647
abbrev srcOf (a b : Int) (t u : Tok) (n : Nat) : Obj := W.listOf #[.int a t, .int b u] n
def DrawnPost (x : Addr) (n : Nat) (news : List (Addr × Obj)) (r : Value) (news' : List (Addr × Obj)) : Prop :=
  ∃ d a b t u k tl, SrcOk a b ∧ news' = (x, srcOf a b t u k) :: (tl ++ news) ∧ (∀ p ∈ tl ++ news, p.1 ≠ x) ∧ TreeIn (tl ++ news) r d ∧ d.size < 2 ^ (n + 1)
def KidD (w : World) (mean : ExcName → Option Value) (mg mb : Str → Option Value) (n : Nat) : Prop :=
  ∀ (x : Addr) (a b : Int) (t u t1 : Tok) (k : Nat) (high : Int) (news : List (Addr × Obj)), SrcOk a b → (∀ p ∈ news, p.1 ≠ x) → high = (n : Int) →
    Con w mean mg mb 344 [.ref x, .int high t1] (n + 10) ((x, srcOf a b t u k) :: news) (DrawnPost x n news)
/-- one entry of a ledger, and the rest of it -/
inductive Front (p : Addr × Obj) : List (Addr × Obj) → List (Addr × Obj) → Prop
  | head {r} : Front p (p :: r) r
  | tail {q r r'} : Front p r r' → Front p (q :: r) (q :: r')
theorem Front.news {p : Addr × Obj} {l r : List (Addr × Obj)} (f : Front p l r) {h₀ h : Heap} {L : Addr} (N : News h₀ L h l) : News h₀ L h (p :: r) := by
  induction f with
  | head => exact N
  | @tail q r r' _ ih =>
    have a := N q (.head _)
    have b := ih fun x hx => N x (.tail _ hx)
    intro x hx
    rcases List.mem_cons.mp hx with rfl | hx
    · exact b _ (.head _)
    · rcases List.mem_cons.mp hx with rfl | hx
      · exact a
      · exact b _ (.tail _ hx)
/-- the collation that an expression is ordered by -/
def Tree.coll (d : Tree) : Coll := match d.expl with | some c => c | none => match d.ccol with | some c => c | none => .binary
/-- the collation that two are compared by -/
def cmpColl (d e : Tree) : Coll := match d.expl with | some c => c | none => match e.expl with | some c => c | none => match d.ccol with | some c => c | none => match e.ccol with | some c => c | none => .binary
end

-- part Fo
section
structure TxIs (tx : Str) (l : List Str) : Prop where
  a : tx.cps.toList.map (fun c => (⟨#[c]⟩ : Str)) = l
  b : tx.cps.all (· < 128) = true
  c : tx.cps.size ≤ sizeLine
local macro_rules | `(tactic| walk_at "eval ListComp") => `(tactic| (k_here; (rename TxIs _ _ => hTx); k_dflt (refine ListComp_str _ _ (TxIs.a hTx) (TxIs.b hTx) (TxIs.c hTx) (F₀ := by k_asm) (by with_unfolding_all rfl) (by decide) (by rfl) (by decide) (by rfl) ?_)))
local macro_rules | `(tactic| walk_at "CompStr") => `(tactic| (k_here; k_dflt (refine CompStr.intro (by exact rfl) (by k_asm) (by k_asm) (fun g' => ?_))))
local macro_rules | `(tactic| walk_at "StrTurns") => `(tactic| (with_unfolding_all first
  | (refine StrTurns.succ ?_; intro t' I' oI' C' oC' D' m' h' tk' E' hC' hx' F' N' off' ne')
  | refine StrTurns.zero ?_))
local macro_rules | `(tactic| walk_at "CompEnd") => `(tactic| (refine LCg.CompEnd.intro (by assumption) (by assumption) _ (fun _ h => h) (by assumption) True.intro ?_; (try dsimp only [List.nil_append, List.cons_append])))
local macro_rules | `(tactic| walk_at "FinE") => `(tactic| ((unfold LCg.FinE); intro D' h' tk' F' N' o1'; (try dsimp only)))
theorem tx_noCase : TxIs (Str.ofString "NoCase") [Str.ofString "N", Str.ofString "o", Str.ofString "C", Str.ofString "a", Str.ofString "s", Str.ofString "e"] := ⟨by decide +kernel, by decide +kernel, by decide +kernel⟩
theorem tx_rtrim : TxIs (Str.ofString "rtrim") [Str.ofString "r", Str.ofString "t", Str.ofString "r", Str.ofString "i", Str.ofString "m"] := ⟨by decide +kernel, by decide +kernel, by decide +kernel⟩
theorem tx_binary : TxIs (Str.ofString "BINARY") [Str.ofString "B", Str.ofString "I", Str.ofString "N", Str.ofString "A", Str.ofString "R", Str.ofString "Y"] := ⟨by decide +kernel, by decide +kernel, by decide +kernel⟩
theorem strE {a b : Str} {t : Tok} (h : a = b) : ∃ t', Value.str a t = Value.str b t' := ⟨t, h ▸ rfl⟩
set_option maxRecDepth 100000 in
set_option maxHeartbeats 8000000 in
theorem fold_con (w : World) (mean : ExcName → Option Value) (mg mb : Str → Option Value) (c : Coll) (t : Tok) (news : List (Addr × Obj)) :
    ConV w mean mg mb 286 [.str c.raw t] 5 news (fun r => ∃ t', r = .str c.low t') := by
  w_on
  intro dp un gd cn cs a ccd cl outer A₀ base h₀ L m s Q E B F X N T hk hd hu hret
  cases c
  case noCase =>
    have hTx := tx_noCase
    simp only [Coll.raw, Coll.low] at hret ⊢
    refine wpAny_call ?_
    k_dflt ktr_enter
    k_steps
    exact endV hret (by k_asm) (by k_asm) (fun p hp => List.mem_cons_of_mem _ hp) (strE (by decide +kernel))
  case rtrim =>
    have hTx := tx_rtrim
    simp only [Coll.raw, Coll.low] at hret ⊢
    refine wpAny_call ?_
    k_dflt ktr_enter
    k_steps
    exact endV hret (by k_asm) (by k_asm) (fun p hp => List.mem_cons_of_mem _ hp) (strE (by decide +kernel))
  case binary =>
    have hTx := tx_binary
    simp only [Coll.raw, Coll.low] at hret ⊢
    refine wpAny_call ?_
    k_dflt ktr_enter
    k_steps
    exact endV hret (by k_asm) (by k_asm) (fun p hp => List.mem_cons_of_mem _ hp) (strE (by decide +kernel))
end

-- part Aff
section
theorem append_L {prog : Program} {w : World} {A : Around} {E : Value → Shared → Prop} {s : Shared} {h₀ : Heap} {L D : Addr} {m : Str → Option Value} {news news' : List (Addr × Obj)} {l : List Value} {n : Nat} {x : Value} {Q : Value → Shared → Prop} (F : Fr h₀ L s.heap m) (N : News h₀ L s.heap news)
    (U : Upd D (W.listOf l.toArray n) (W.listOf (l ++ [x]).toArray (n + 1)) news news')
    (h : ∀ h', Fr h₀ L h' m → News h₀ L h' news' → Q .none { s with heap := h' }) (hsz : l.toArray.size ≤ sizeLine) : wpAny (model prog w) A (call (.builtin "list.append") [.ref D, x]) Q E s :=
  append_K F N (by rw [List.push_toArray]; exact U) h hsz
theorem endW {h₀ : Heap} {L I : Addr} {it : Obj} {keep : List (Addr × Obj)} {rest : (Str → Option Value) → List (Addr × Obj) → Prop} {s₁ : Shared} {h' : Heap} {tk : Nat} {m' : Str → Option Value} {all : List (Addr × Obj)} (F : Fr h₀ L h' m') (N : News h₀ L h' all) (news' : List (Addr × Obj))
    (sub : ∀ p ∈ (I, it) :: news', p ∈ all) (off : ∀ p ∈ news', p.1 ≠ I) (hk : SubL keep news') (r : rest m' news') : UnrEndW h₀ L s₁ [(I, it)] (fun m' n' => SubL keep n' ∧ rest m' n') { s₁ with heap := h', toks := tk } :=
  ⟨h', tk, m', news', rfl, F, fun p hp => N p (sub p hp), fun p hp q hq => by rw [List.mem_singleton.mp hq]; exact off p hp, hk, r⟩
local macro_rules | `(tactic| walk_at "UnrEndW") => `(tactic| first
  | (refine endW (by assumption) (by assumption) _ (fun _ h => h) (by k_all) (by k_subL) ?_)
  | (refine endW (by assumption) (by assumption) _ (fun _ h => List.mem_cons_of_mem _ h) (by k_all) (by k_subL) ?_))
local macro_rules | `(tactic| walk_at "pyIter ref") => `(tactic| (k_here; (with_reducible show wpAny _ _ (pyIter (Value.ref _)) (fun it s₂ => TurnsAt _ _ _ _ _ _ _ _ _ it s₂) _ _); (rename Fr _ _ _ _ => lF'); (with_unfolding_all refine iter_tupTurns (by rfl) lF' (by assumption) (by k_mem) (by rfl) (by rfl) ?_); clear lF'; intro i' l1; (try k_lt l1)))
local macro_rules | `(tactic| walk_at "call ref") => `(tactic| (k_here; refine wpAny_call ?_; k_dflt (refine' code_def ?k1 ?k2 ?k3 ?k4 ?k5 ?kA ?kF ?kK ?k6 ?k7 ?k8 ?k9 ?kB ?_ ?c2 ?c3 ?c4 ?c5; (case kA => exact rfl); (case kF => exact rfl); (case kK => first | exact rfl | assumption); (case k1 => k_asm); (case k2 => k_asm); (case k3 => k_asm); (case k4 => k_asm); (case k5 => k_asm); (case k6 => k_is); (case k7 => k_is); (case k8 => ktr_room); (case k9 => first | exact BindsTo.of_eq rfl | exact binds_K (by k_in) rfl (by k_is) rfl rfl rfl); (case c5 => decide); (case kB => exact locs rfl); (case c2 => exact rfl); (case c3 => exact rfl); (case c4 => exact rfl); k_whole; intro g' L' h' FG' F' N' B' X' T'; (try dsimp only); (try k_fold))))
local macro_rules | `(tactic| walk_at "ite") => `(tactic| (k_closed; k_dflt (first | refine ite_pos (by decide +kernel) ?_ | refine ite_neg (by decide +kernel) ?_)))
local macro_rules | `(tactic| walk_at "exec For Name Name cons nil") => `(tactic| (k_here; k_strName; (rename Fr _ _ _ _ => lF'); (with_unfolding_all refine' For_invVF lF' ?k1 ?k2 ?_; (case k1 => exact rfl); (case k2 => exact rfl); k_whole)))
local macro_rules | `(tactic| walk_at "pyIter str") => `(tactic| ((with_reducible show wpAny _ _ (pyIter (Value.str _ _)) (fun it s₂ => LoopAtV _ _ _ _ _ _ _ _ _ it s₂) _ _); k_here; k_strUnr))
local macro_rules | `(tactic| walk_at "call builtin:list.append") => `(tactic| (k_here; (try simp only [List.cons_append, List.nil_append]); (with_reducible show wpAny _ _ (call (Value.builtin _) [Value.ref _, _]) _ _ _); k_dflt (refine' append_L ?k1 ?k2 ?k3 ?_ ?z; (case k1 => k_asm); (case k2 => k_asm); (case k3 => k_upd); (case z => size_fits); k_whole); intro h' F' N'; (try simp only [List.cons_append, List.nil_append] at N'); (try k_sweep)))
local macro_rules | `(tactic| walk_at "call builtin:str.join") => `(tactic| (k_here; (simp only [List.cons_append, List.nil_append])))
local macro_rules | `(tactic| walk_at "UnrEnd") => `(tactic| first
  | (refine UnrEnd.intro (by assumption) (by assumption) _ (fun _ h => h) (by k_all) ?_)
  | (refine UnrEnd.intro (by assumption) (by assumption) _ (fun _ h => List.mem_cons_of_mem _ h) (by k_all) ?_))
set_option maxRecDepth 100000 in
set_option maxHeartbeats 8000000 in
theorem afft_con (w : World) (mean : ExcName → Option Value) (mg mb : Str → Option Value) (c : CTy) (t : Tok) (news : List (Addr × Obj)) :
    ConV w mean mg mb 281 [.str c.raw t] 5 news (fun r => ∃ t', r = .str c.aff t') := by
  w_on
  intro dp un gd cn cs a ccd cl outer A₀ base h₀ L m s Q E B F X N T hk hd hu hret
  cases c
  all_goals (
    simp only [CTy.raw, CTy.aff] at hret ⊢
    refine wpAny_call ?_
    k_dflt ktr_enter
    k_steps
    exact endV hret (by k_asm) (by k_asm) (fun p hp => by repeat (first | exact hp | refine List.mem_cons_of_mem _ ?_)) ⟨_, rfl⟩)
end

-- part Ex
section
theorem expl_none {op : Str} {d1 d2 : Tree} (h : d1.expl = none) (t : Tok) : ∃ t', optC t d2.expl = optC t' (Tree.both op d1 d2).expl := ⟨t, by rw [Tree.expl, h]⟩
theorem expl_some {op : Str} {d1 d2 : Tree} {c : Coll} (h : d1.expl = some c) (t : Tok) : ∃ t', optC t d1.expl = optC t' (Tree.both op d1 d2).expl := ⟨t, by rw [Tree.expl, h]⟩
local macro_rules | `(tactic| walk_at "call ref") => `(tactic| (k_here; k_dflt (refine' useV ?k1 ?k2 ?k3 ?k4 ?k5 ?kK ?kC ?kd ?ku ?_; (case k1 => k_asm); (case k2 => k_asm); (case k3 => k_asm); (case k4 => k_asm); (case k5 => k_asm); (case kK => first | exact rfl | assumption); (case kC => first | assumption | exact fold_con _ _ _ _ _ _ _); (case kd => ktr_room); (case ku => ktr_units); k_whole; intro r9 h9 tk9 F9 N9 p9; obtain ⟨t9, e9⟩ := p9; subst e9; (try dsimp only); (try k_fold))))
set_option maxRecDepth 100000 in
set_option maxHeartbeats 8000000 in
theorem expl_con (w : World) (mean : ExcName → Option Value) (mg mb : Str → Option Value) {news : List (Addr × Obj)} {v : Value} {d : Tree} (R : NodeIn news v d) :
    ConV w mean mg mb 301 [v] (d.size + 10) news (fun r => ∃ t, r = optC t d.expl) := by
  w_on
  induction R with
  | both m1 m2 R1 R2 IH1 IH2 =>
    rename_i d1 d2
    intro dp un gd cn cs a ccd cl outer A₀ base h₀ L m s Q E B F X N T hk hd hu hret
    simp only [Tree.size] at hd hu
    refine wpAny_call ?_
    k_dflt ktr_enter
    k_steps
    rcases hE : d1.expl with _ | c
    · simp only [optC]
      k_steps
      exact hret _ _ _ _ (by k_asm) (by k_asm) ⟨rfl, expl_none hE _⟩
    · cases c
      all_goals (simp only [optC, Coll.low]; k_steps)
      all_goals exact hret _ _ _ _ (by k_asm) (by k_asm) ⟨rfl, expl_some hE _⟩
  | _ =>
    intro dp un gd cn cs a ccd cl outer A₀ base h₀ L m s Q E B F X N T hk hd hu hret
    simp only [Tree.size] at hd hu
    refine wpAny_call ?_
    k_dflt ktr_enter
    k_steps
    all_goals exact hret _ _ _ _ (by k_asm) (by k_asm) ⟨rfl, by first | exact ⟨_, rfl⟩ | exact ⟨0, rfl⟩⟩
end

-- part Cc
section
local macro_rules | `(tactic| walk_at "idle0") => `(tactic| skip)
local macro_rules | `(tactic| walk_at "call ref") => `(tactic| (k_here; k_dflt (refine' useV ?k1 ?k2 ?k3 ?k4 ?k5 ?kK ?kC ?kd ?ku ?_; (case k1 => k_asm); (case k2 => k_asm); (case k3 => k_asm); (case k4 => k_asm); (case k5 => k_asm); (case kK => first | exact rfl | assumption); (case kC => assumption); (case kd => ktr_room); (case ku => ktr_units); k_whole; intro r9 h9 tk9 F9 N9 p9; obtain ⟨t9, e9⟩ := p9; subst e9; (try dsimp only); (try k_fold))))
theorem ccol_plus {op : Str} {d : Tree} (h : (op == Str.ofString "+") = true) (t : Tok) : ∃ t', optC t d.ccol = optC t' (Tree.sign op d).ccol := ⟨t, by rw [Tree.ccol, if_pos h]⟩
theorem ccol_not {op : Str} {d : Tree} (h : (op == Str.ofString "+") = false) : ∃ t', Value.none = optC t' (Tree.sign op d).ccol := ⟨0, by rw [Tree.ccol, if_neg (by rw [h]; decide)]; rfl⟩
set_option maxRecDepth 100000 in
set_option maxHeartbeats 8000000 in
theorem ccol_con (w : World) (mean : ExcName → Option Value) (mg mb : Str → Option Value) {news : List (Addr × Obj)} {v : Value} {d : Tree} (R : NodeIn news v d) :
    ConV w mean mg mb 308 [v] (d.size + 10) news (fun r => ∃ t, r = optC t d.ccol) := by
  w_on
  induction R with
  | sign m1 m2 R1 IH1 =>
    rename_i op v d1
    intro dp un gd cn cs a ccd cl outer A₀ base h₀ L m s Q E B F X N T hk hd hu hret
    simp only [Tree.size] at hd hu
    refine wpAny_call ?_
    k_dflt ktr_enter
    k_steps
    · exact hret _ _ _ _ (by k_asm) (by k_asm) ⟨rfl, ccol_plus (by assumption) _⟩
    · exact hret _ _ _ _ (by k_asm) (by k_asm) ⟨rfl, ccol_not (by assumption)⟩
  | _ =>
    intro dp un gd cn cs a ccd cl outer A₀ base h₀ L m s Q E B F X N T hk hd hu hret
    simp only [Tree.size] at hd hu
    refine wpAny_call ?_
    k_dflt ktr_enter
    k_steps
    all_goals exact hret _ _ _ _ (by k_asm) (by k_asm) ⟨rfl, by first | exact ⟨_, rfl⟩ | exact ⟨0, rfl⟩⟩
end

-- part Ao
section
local macro_rules | `(tactic| walk_at "idle0") => `(tactic| skip)
local macro_rules | `(tactic| walk_at "idle1") => `(tactic| skip)
theorem handed_optS {t : Tok} {o : Option Str} : handedIn (optS t o) = true := by cases o <;> rfl
local macro_rules | `(tactic| k_handed) => `(tactic| exact handed_optS)
local macro_rules | `(tactic| walk_at "call ref") => `(tactic| (k_here; k_dflt (refine' useV ?k1 ?k2 ?k3 ?k4 ?k5 ?kK ?kC ?kd ?ku ?_; (case k1 => k_asm); (case k2 => k_asm); (case k3 => k_asm); (case k4 => k_asm); (case k5 => k_asm); (case kK => first | exact rfl | assumption); (case kC => first | assumption | exact afft_con _ _ _ _ _ _ _); (case kd => ktr_room); (case ku => ktr_units); k_whole; intro r9 h9 tk9 F9 N9 p9; obtain ⟨t9, e9⟩ := p9; subst e9; (try dsimp only); (try k_fold))))
set_option maxRecDepth 100000 in
set_option maxHeartbeats 8000000 in
theorem aff2_con (w : World) (mean : ExcName → Option Value) (mg mb : Str → Option Value) {news : List (Addr × Obj)} {v : Value} {d : Tree} (R : NodeIn news v d) :
    ConV w mean mg mb 294 [v, .none] (d.size + 10) news (fun r => ∃ t, r = optS t d.aff) := by
  w_on
  induction R with
  | _ =>
    intro dp un gd cn cs a ccd cl outer A₀ base h₀ L m s Q E B F X N T hk hd hu hret
    simp only [Tree.size] at hd hu
    refine wpAny_call ?_
    k_dflt (refine' code_def ?k1 ?k2 ?k3 ?k4 ?k5 ?kA ?kF ?kK ?k6 ?k7 ?k8 ?k9 ?kB ?_ ?c2 ?c3 ?c4 ?c5; (case kA => exact rfl); (case kF => exact rfl); (case kK => first | exact rfl | assumption); (case k1 => k_asm); (case k2 => k_asm); (case k3 => k_asm); (case k4 => k_asm); (case k5 => k_asm); (case k6 => k_is); (case k7 => k_is); (case k8 => ktr_room); (case k9 => first | exact BindsTo.of_eq rfl | exact binds_K (by k_in) rfl (by k_is) rfl rfl rfl); (case c5 => decide); (case kB => exact locs rfl); (case c2 => exact rfl); (case c3 => exact rfl); (case c4 => exact rfl); k_whole; intro g' L' h' FG' F' N' B' X' T'; (try dsimp only); (try k_fold))
    k_steps
    all_goals first | exact hret _ _ _ _ (by k_asm) (by k_asm) ⟨rfl, by first | exact ⟨_, rfl⟩ | exact ⟨0, rfl⟩⟩
set_option maxRecDepth 100000 in
set_option maxHeartbeats 8000000 in
theorem aff1_con (w : World) (mean : ExcName → Option Value) (mg mb : Str → Option Value) {news : List (Addr × Obj)} {v : Value} {d : Tree} (R : NodeIn news v d) :
    ConV w mean mg mb 294 [v] (d.size + 11) news (fun r => ∃ t, r = optS t d.aff) := by
  intro dp un gd cn cs a ccd cl outer A₀ base h₀ L m s Q E B F X N T hk hd hu hret
  cases R
  case collate m1 m2 R =>
    have C := aff2_con w mean mg mb R
    simp only [Tree.size] at hd hu
    refine wpAny_call ?_
    k_dflt (refine' code_def ?k1 ?k2 ?k3 ?k4 ?k5 ?kA ?kF ?kK ?k6 ?k7 ?k8 ?k9 ?kB ?_ ?c2 ?c3 ?c4 ?c5; (case kA => exact rfl); (case kF => exact rfl); (case kK => first | exact rfl | assumption); (case k1 => k_asm); (case k2 => k_asm); (case k3 => k_asm); (case k4 => k_asm); (case k5 => k_asm); (case k6 => k_is); (case k7 => k_is); (case k8 => ktr_room); (case k9 => first | exact BindsTo.of_eq rfl | exact binds_K (by k_in) rfl (by k_is) rfl rfl rfl); (case c5 => decide); (case kB => exact locs rfl); (case c2 => exact rfl); (case c3 => exact rfl); (case c4 => exact rfl); k_whole; intro g' L' h' FG' F' N' B' X' T'; (try dsimp only); (try k_fold))
    k_steps
    all_goals exact hret _ _ _ _ (by k_asm) (by k_asm) ⟨rfl, by first | exact ⟨_, rfl⟩ | exact ⟨0, rfl⟩⟩
  all_goals (
    simp only [Tree.size] at hd hu
    refine wpAny_call ?_
    k_dflt (refine' code_def ?k1 ?k2 ?k3 ?k4 ?k5 ?kA ?kF ?kK ?k6 ?k7 ?k8 ?k9 ?kB ?_ ?c2 ?c3 ?c4 ?c5; (case kA => exact rfl); (case kF => exact rfl); (case kK => first | exact rfl | assumption); (case k1 => k_asm); (case k2 => k_asm); (case k3 => k_asm); (case k4 => k_asm); (case k5 => k_asm); (case k6 => k_is); (case k7 => k_is); (case k8 => ktr_room); (case k9 => first | exact BindsTo.of_eq rfl | exact binds_K (by k_in) rfl (by k_is) rfl rfl rfl); (case c5 => decide); (case kB => exact locs rfl); (case c2 => exact rfl); (case c3 => exact rfl); (case c4 => exact rfl); k_whole; intro g' L' h' FG' F' N' B' X' T'; (try dsimp only); (try k_fold))
    k_steps
    all_goals exact hret _ _ _ _ (by k_asm) (by k_asm) ⟨rfl, by first | exact ⟨_, rfl⟩ | exact ⟨0, rfl⟩⟩)
end

-- part To
section
local macro_rules | `(tactic| walk_at "idle0") => `(tactic| skip)
local macro_rules | `(tactic| walk_at "idle1") => `(tactic| skip)
local macro_rules | `(tactic| k_mem) => `(tactic| first | exact List.Mem.head _ | ktr_member | (refine List.mem_cons_of_mem _ ?_; k_mem))
local macro_rules | `(tactic| ktd_sub) => `(tactic| (intro p hp; repeat (first | exact hp | refine List.mem_cons_of_mem _ ?_)))
local macro_rules | `(tactic| walk_at "call ref") => `(tactic| (k_here; k_dflt (refine' useKidL ?k1 ?k2 ?k3 ?k4 ?k5 ?kK ?kC ?kS ?kd ?ku ?_; (case k1 => k_asm); (case k2 => k_asm); (case k3 => k_asm); (case k4 => k_asm); (case k5 => k_asm); (case kK => first | exact rfl | assumption); (case kC => assumption); (case kS => ktd_sub); (case kd => ktr_room); (case ku => ktr_units); k_whole; intro a9 us9 n9 h9 tk9 F9 N9 p9; (try dsimp only); (try k_fold))))
theorem told_room {d1 d2 : Tree} {us vs : List Value} {dp : Nat} (h1 : ToldVs d1 us) (h2 : ToldVs d2 vs) (hd : dp + (d1.size + d2.size + 1 + 10) < recursionLimit) : us.length + vs.length ≤ sizeLine := by
  have a := h1.1
  have b := h2.1
  have e : recursionLimit = 1000 := rfl
  rw [sizeLine_eq]
  omega
theorem told_both {op : Str} {d1 d2 : Tree} {us vs : List Value} (h1 : ToldVs d1 us) (h2 : ToldVs d2 vs) : ToldVs (.both op d1 d2) (us ++ vs) := by
  obtain ⟨a1, b1⟩ := h1
  obtain ⟨a2, b2⟩ := h2
  refine ⟨by rw [List.length_append, Tree.size]; omega, ?_⟩
  rw [Tree.expl]
  cases e : d1.expl with
  | none =>
    rw [e] at b1
    dsimp only at b1 ⊢
    subst b1
    exact b2
  | some c =>
    rw [e] at b1
    obtain ⟨t, r, rfl⟩ := b1
    exact ⟨t, r ++ vs, rfl⟩
theorem told_sign {op : Str} {d : Tree} {us : List Value} (h : ToldVs d us) : ToldVs (.sign op d) us := ⟨Nat.le_trans h.1 (Nat.le_succ _), h.2⟩
theorem told_cast {c : CTy} {d : Tree} {us : List Value} (h : ToldVs d us) : ToldVs (.cast c d) us := ⟨Nat.le_trans h.1 (Nat.le_succ _), h.2⟩
theorem told_nil {d : Tree} (h : d.expl = none) : ToldVs d [] := ⟨Nat.zero_le _, by rw [h]⟩
theorem told_coll {c : Coll} {d : Tree} {x : Str} {t : Tok} (h : x = c.low) : ToldVs (.collate c d) [.str x t] := ⟨by rw [Tree.size]; exact Nat.succ_le_succ (Nat.zero_le _), t, [], by rw [h]⟩
local macro_rules | `(tactic| walk_at "binaryOp Add ref ref") => `(tactic| (k_here; (with_reducible show wpAny _ _ (binaryOp _ (Value.ref _) (Value.ref _)) _ _ _); k_dflt (refine' add_L ?zF1 ?zN1 ?zm1 ?zm2 ?_ ?zz1; (case zF1 => k_asm); (case zN1 => k_asm); (case zm1 => k_mem); (case zm2 => k_mem); (case zz1 => exact told_room (by assumption) (by assumption) (by assumption))); intro D' h' F' N'; (try k_sweep)))
set_option maxRecDepth 100000 in
set_option maxHeartbeats 8000000 in
theorem told_con (w : World) (mean : ExcName → Option Value) (mg mb : Str → Option Value) (d : Tree) : ∀ (news : List (Addr × Obj)) (v : Value), TreeIn news v d →
    ConL w mean mg mb 358 [v] (d.size + 10) news (ToldVs d) := by
  w_on
  induction d with
  | both op d1 d2 IH1 IH2 =>
    intro news v R
    intro dp un gd cn cs a ccd cl outer A₀ base h₀ L m s Q E B F X N T hk hd hu hret
    cases R with
    | @both a t u n op v v' d1 d2 m1 R1 R2 =>
    have K1 : KidL w mean mg mb 358 [v] (d1.size + 10) news (ToldVs d1) := fun news' hs => IH1 _ _ (R1.mono hs)
    have K2 : KidL w mean mg mb 358 [v'] (d2.size + 10) news (ToldVs d2) := fun news' hs => IH2 _ _ (R2.mono hs)
    simp only [Tree.size] at hd hu
    refine wpAny_call ?_
    k_dflt ktr_enter
    k_steps
    exact endL hret (by k_asm) (by k_asm) (by ktd_sub) (told_both (by assumption) (by assumption))
  | sign op d1 IH1 =>
    intro news v R
    intro dp un gd cn cs a ccd cl outer A₀ base h₀ L m s Q E B F X N T hk hd hu hret
    cases R with
    | @sign a t u n op v d m1 R1 =>
    have K1 : KidL w mean mg mb 358 [v] (d1.size + 10) news (ToldVs d1) := fun news' hs => IH1 _ _ (R1.mono hs)
    simp only [Tree.size] at hd hu
    refine wpAny_call ?_
    k_dflt ktr_enter
    k_steps
    exact endL hret (by k_asm) (by k_asm) (by ktd_sub) (told_sign (by assumption))
  | cast c d1 IH1 =>
    intro news v R
    intro dp un gd cn cs a ccd cl outer A₀ base h₀ L m s Q E B F X N T hk hd hu hret
    cases R with
    | @cast a t u n c v d m1 R1 =>
    have K1 : KidL w mean mg mb 358 [v] (d1.size + 10) news (ToldVs d1) := fun news' hs => IH1 _ _ (R1.mono hs)
    simp only [Tree.size] at hd hu
    refine wpAny_call ?_
    k_dflt ktr_enter
    k_steps
    exact endL hret (by k_asm) (by k_asm) (by ktd_sub) (told_cast (by assumption))
  | collate c d1 IH1 =>
    intro news v R
    intro dp un gd cn cs a ccd cl outer A₀ base h₀ L m s Q E B F X N T hk hd hu hret
    cases R with
    | @collate a t u n c v d m1 R1 =>
    simp only [Tree.size] at hd hu
    refine wpAny_call ?_
    k_dflt ktr_enter
    cases c
    all_goals (
      simp only [Coll.raw] at m1
      k_steps
      exact endL hret (by k_asm) (by k_asm) (by ktd_sub) (told_coll (by decide +kernel)))
  | _ =>
    intro news v R
    intro dp un gd cn cs a ccd cl outer A₀ base h₀ L m s Q E B F X N T hk hd hu hret
    cases R
    simp only [Tree.size] at hd hu
    refine wpAny_call ?_
    k_dflt ktr_enter
    k_steps
    exact endL (us := []) hret (by k_asm) (by k_asm) (by ktd_sub) (told_nil rfl)
end

-- part Ca
section
local macro_rules | `(tactic| walk_at "idle0") => `(tactic| skip)
local macro_rules | `(tactic| walk_at "idle1") => `(tactic| skip)
local macro_rules | `(tactic| walk_at "idle2") => `(tactic| skip)
local macro_rules | `(tactic| k_mem) => `(tactic| first | exact List.Mem.head _ | ktr_member | (refine List.mem_cons_of_mem _ ?_; k_mem))
theorem ccol_plus9 {D : Option Coll} {op : Str} {d : Tree} (h : D = (Tree.sign op d).ccol) (e : (op == Str.ofString "+") = true) : D = d.ccol := by rw [h, Tree.ccol, if_pos e]
theorem ccol_cast9 {D : Option Coll} {c : CTy} {d : Tree} (h : D = (Tree.cast c d).ccol) : D = d.ccol := h
local macro_rules | `(tactic| kwd_inv) => `(tactic| first | rfl | assumption | exact ccol_cast9 (by assumption) | exact ccol_plus9 (by assumption) (by assumption))
local macro_rules | `(tactic| ktd_sub) => `(tactic| (intro p hp; repeat (first | exact hp | refine List.mem_cons_of_mem _ ?_)))
local macro_rules | `(tactic| walk_at "subscriptTail Name Slice ref ref") => `(tactic| (k_here; k_dflt (first
  | (refine' slice_two ?zF1 ?zN1 ?zT1 ?_ ?zs1 ?zg1; (case zF1 => k_asm); (case zN1 => k_asm); (case zT1 => exact News.isTup (by k_asm) (by k_mem)); (case zs1 => with_unfolding_all rfl); (case zg1 => (intro _; with_unfolding_all rfl)); intro D' h' F' N'; (try k_sweep))
  | (refine' slice_whole ?zF1 ?zN1 ?zT1 ?_ ?zs1 ?zg1; (case zF1 => k_asm); (case zN1 => k_asm); (case zT1 => exact News.isTup (by k_asm) (by k_mem)); (case zs1 => with_unfolding_all rfl); (case zg1 => (intro _; with_unfolding_all rfl)); intro h' F' N'; (try k_sweep)))))
local macro_rules | `(tactic| walk_at "compareOp Eq ref ref") => `(tactic| (k_here; (with_reducible show wpAny _ _ (compareOp CmpOp.Eq (Value.ref _) (Value.ref _)) _ _ _); k_dflt (first
  | (refine' eq_pair_yes ?zN1 ?zl1 ?zb1 ?zu1 ?_; (case zN1 => k_asm); (case zl1 => k_mem); (case zb1 => k_mem); (case zu1 => ktr_units))
  | (refine' eq_pair_no ?zN2 ?zl2 ?zb2 ?zu2 ?zd2 ?ze2 ?_; (case zN2 => k_asm); (case zl2 => k_mem); (case zb2 => k_mem); (case zu2 => ktr_units); (case zd2 => decide +kernel); (case ze2 => first
    | exact ⟨_, SeqAt.EqAt.str_str _ _ _ _⟩
    | exact eqAt_lit (by assumption)
    | exact ⟨_, SeqAt.EqAt.tuple_str _ _ (isTuple_of (by k_asm) (by k_mem)) (by ktr_units)⟩
    | exact eqAt_tree (by k_asm) (TreeIn.mono (by assumption) (by ktd_sub)) (by ktr_units))))))
local macro_rules | `(tactic| walk_at "exec While BoolOp cons nil") => `(tactic| (k_whileD TreeIn Tree.size (fun D d => D.ccol = d.ccol) "tree"))
theorem colvs_some {D : Tree} {k : Kd} {t : Tok} (h : D.ccol = (Tree.col k).ccol) : ColVs D [.str k.coll.low t] := ⟨Nat.le_refl _, by rw [h]; exact ⟨t, [], rfl⟩⟩
theorem colvs_none {D d : Tree} (h : D.ccol = d.ccol) (e : d.ccol = none) : ColVs D [] := ⟨Nat.zero_le _, by rw [h, e]⟩
theorem ccol_sign_no {op : Str} {d : Tree} (h : (op == Str.ofString "+") = false) : (Tree.sign op d).ccol = none := by rw [Tree.ccol, if_neg (by rw [h]; decide)]
set_option maxRecDepth 100000 in
set_option maxHeartbeats 8000000 in
theorem lcol_con (w : World) (mean : ExcName → Option Value) (mg mb : Str → Option Value) {news : List (Addr × Obj)} {v : Value} {d : Tree} (R : TreeIn news v d) :
    ConL w mean mg mb 365 [v] 10 news (ColVs d) := by
  w_on
  intro dp un gd cn cs a ccd cl outer A₀ base h₀ L m s Q E B F X N T hk hd hu hret
  refine wpAny_call ?_
  k_dflt ktr_enter
  k_steps
  all_goals first
    | exact endL hret (by k_asm) (by k_asm) (by ktd_sub) (colvs_some (by assumption))
    | exact endL (us := []) hret (by k_asm) (by k_asm) (by ktd_sub) (colvs_none (by assumption) rfl)
    | exact endL (us := []) hret (by k_asm) (by k_asm) (by ktd_sub) (colvs_none (by assumption) (ccol_sign_no (by assumption)))
end

-- part La
section
local macro_rules | `(tactic| walk_at "idle0") => `(tactic| skip)
local macro_rules | `(tactic| walk_at "idle1") => `(tactic| skip)
local macro_rules | `(tactic| walk_at "idle2") => `(tactic| skip)
local macro_rules | `(tactic| walk_at "idle3") => `(tactic| skip)
local macro_rules | `(tactic| k_mem) => `(tactic| first | exact List.Mem.head _ | ktr_member | (refine List.mem_cons_of_mem _ ?_; k_mem))
local macro_rules | `(tactic| walk_at "ite") => `(tactic| (k_closed; k_dflt (first | (refine' ite_pos ?zi1 ?_; (case zi1 => decide +kernel)) | (refine' ite_neg ?zi2 ?_; (case zi2 => decide +kernel)))))
theorem flat_str {v : Value} {x : Str} (h : PyProof.V.Flat v (PyData.str x)) : ∃ t, v = .str x t := by
  have q := h { objs := #[] }
  cases q
  exact ⟨_, rfl⟩
local macro_rules | `(tactic| walk_at "getItem ref str") => `(tactic| (k_here; k_dflt (first
  | (refine' getItem_tab (dv := PyData.str (Str.ofString "integer")) PyProof.V.same_str (strKind_is _ _ _ _) ?zk1 ?zk2 ?_; (case zk1 => k_tabat); (case zk2 => kernel_rfl!); k_whole)
  | (refine' getItem_tab (dv := PyData.str (Str.ofString "text")) PyProof.V.same_str (strKind_is _ _ _ _) ?zk1 ?zk2 ?_; (case zk1 => k_tabat); (case zk2 => kernel_rfl!); k_whole)
  | (refine' getItem_tab (dv := PyData.str (Str.ofString "blob")) PyProof.V.same_str (strKind_is _ _ _ _) ?zk1 ?zk2 ?_; (case zk1 => k_tabat); (case zk2 => kernel_rfl!); k_whole)
  | (refine' getItem_tab (dv := PyData.str (Str.ofString "numeric")) PyProof.V.same_str (strKind_is _ _ _ _) ?zk1 ?zk2 ?_; (case zk1 => k_tabat); (case zk2 => kernel_rfl!); k_whole)); intro v9 hv9; (have hv8 := flat_str hv9); (clear hv9); (obtain ⟨t9, hv7⟩ := hv8); (subst hv7)))
local macro_rules | `(tactic| ktd_sub) => `(tactic| (intro p hp; repeat (first | exact hp | refine List.mem_cons_of_mem _ ?_)))
local macro_rules | `(tactic| kwd_inv) => `(tactic| first | rfl | assumption)
local macro_rules | `(tactic| walk_at "exec While Compare cons nil") => `(tactic| (k_whileD TreeIn Tree.size (fun D d => D.aff = d.aff) "tree"; (all_goals (try ((rename CTy => c9); (cases c9) <;> ((rename ((_, tupOf _ _) ∈ _) => m9); (simp only [CTy.raw] at m9)))))))
theorem aff_col {D : Tree} {k : Kd} {t : Tok} (h : D.aff = (Tree.col k).aff) : ∃ t', optS t k.aff = optS t' D.aff := ⟨t, by rw [h]; rfl⟩
theorem aff_none {D d : Tree} (h : D.aff = d.aff) (e : d.aff = none) : ∃ t', Value.none = optS t' D.aff := ⟨0, by rw [h, e]; rfl⟩
theorem aff_cast {D d : Tree} {c : CTy} {x : Str} {t : Tok} (h : D.aff = (Tree.cast c d).aff) (e : x = c.aff) : ∃ t', Value.str x t = optS t' D.aff := ⟨t, by rw [h, e]; rfl⟩
set_option maxRecDepth 100000 in
set_option maxHeartbeats 8000000 in
theorem laff_con (w : World) (mean : ExcName → Option Value) (mg mb : Str → Option Value) {news : List (Addr × Obj)} {v : Value} {d : Tree} (R : TreeIn news v d) :
    ConV w mean mg mb 372 [v] 10 news (fun r => ∃ t, r = optS t d.aff) := by
  w_on
  intro dp un gd cn cs a ccd cl outer A₀ base h₀ L m s Q E B F X N T hk hd hu hret
  refine wpAny_call ?_
  k_dflt ktr_enter
  (rename (Top _ _ _ _ _ _) => T9; have NL9 := Top.nolimit T9)
  k_steps
  all_goals first
    | exact endV hret (by k_asm) (by k_asm) (by ktd_sub) (aff_col (by assumption))
    | exact endV hret (by k_asm) (by k_asm) (by ktd_sub) (aff_none (by assumption) rfl)
    | exact endV hret (by k_asm) (by k_asm) (by ktd_sub) (aff_cast (by assumption) rfl)
end

-- part No
section
local macro_rules | `(tactic| walk_at "idle0") => `(tactic| skip)
local macro_rules | `(tactic| walk_at "idle1") => `(tactic| skip)
local macro_rules | `(tactic| walk_at "idle2") => `(tactic| skip)
local macro_rules | `(tactic| walk_at "idle3") => `(tactic| skip)
local macro_rules | `(tactic| walk_at "idle4") => `(tactic| skip)
local macro_rules | `(tactic| k_mem) => `(tactic| first | exact List.Mem.head _ | ktr_member | (refine List.mem_cons_of_mem _ ?_; k_mem))
local macro_rules | `(tactic| walk_at "ite") => `(tactic| (k_closed; k_dflt (first | (refine' ite_pos ?zi1 ?_; (case zi1 => decide +kernel)) | (refine' ite_neg ?zi2 ?_; (case zi2 => decide +kernel)))))
def KidN (w : World) (mean : ExcName → Option Value) (mg mb : Str → Option Value) (f : Addr) (vs : List Value) (need : Nat) (news₀ : List (Addr × Obj)) (d : Tree) : Prop :=
  ∀ news, (∀ p ∈ news₀, p ∈ news) → ConN w mean mg mb f vs need news d
theorem useKidN {w : World} {mean : ExcName → Option Value} {mg mb : Str → Option Value} {f : Addr} {vs : List Value} {need : Nat} {news₀ news : List (Addr × Obj)} {d : Tree} {dp un : Nat} {gd : Option (List Code)} {cn : Str} {cs : Scope} {a : Addr} {ccd : Value} {cl : List (Str × Addr)} {outer : List Env} {A₀ : Around} {base h₀ : Heap} {L : Addr} {m : Str → Option Value} {s : Shared}
    {Q E : Value → Shared → Prop} (B : Below A₀ base outer h₀) (F : Fr h₀ L s.heap m) (X : (kt9.heap_1 w.params).In h₀) (N : News h₀ L s.heap news) (T : Top vw (looseW vw [Str.ofString "affinity_of", Str.ofString "collation_of"]) mean mg mb h₀) (hk : cs.kind = .function)
    (C : KidN w mean mg mb f vs need news₀ d) (hs : ∀ p ∈ news₀, p ∈ news) (hd : dp + need < recursionLimit) (hu : un + 8 * need < cLine)
    (ret : ∀ r tl h' tk', Fr h₀ L h' m → News h₀ L h' (tl ++ news) → NodeIn (tl ++ news) r d → Q r { s with heap := h', toks := tk' }) :
    wpAny (model PySem.Challenge.rw_nt0097_01.row.prog w) (ktrTop dp un gd cn cs L a ccd cl outer) (call (.ref f) vs) Q E s :=
  C _ hs _ _ _ _ _ _ _ _ _ _ _ _ _ _ _ _ _ B F X N T hk hd hu fun r news' h' tk' F' N' p => by
    obtain ⟨tl, rfl, p⟩ := p
    exact ret r tl h' tk' F' N' p
theorem endN {news : List (Addr × Obj)} {h₀ : Heap} {L : Addr} {m : Str → Option Value} {d : Tree} {Q : Value → Shared → Prop} {s : Shared} {h' : Heap} {tk : Nat}
  (hret : ∀ r news' h' tk', Fr h₀ L h' m → News h₀ L h' news' → (∃ tl, news' = tl ++ news ∧ NodeIn news' r d) → Q r { s with heap := h', toks := tk' }) {r : Value} {news1 : List (Addr × Obj)}
  (F : Fr h₀ L h' m) (N : News h₀ L h' news1) (hs : ∀ p ∈ news, p ∈ news1) (hp : NodeIn news1 r d) : Q r { s with heap := h', toks := tk } :=
  hret _ (news1 ++ news) h' tk F (fun p hp => N p ((List.mem_append.mp hp).elim id (hs p))) ⟨news1, rfl, hp.mono fun p hp => List.mem_append_left _ hp⟩
local macro_rules | `(tactic| ktd_sub) => `(tactic| (intro p hp; repeat (first | exact hp | refine List.mem_cons_of_mem _ ?_ | refine List.mem_append_right _ ?_)))
local macro_rules | `(tactic| walk_at "call ref") => `(tactic| (k_here; k_dflt (refine' call_cls ?zk1 ?zk2 ?zk3 ?zk4 ?zk5 ?zk6 ?_; (case zk1 => k_asm); (case zk2 => k_asm); (case zk3 => k_asm); (case zk4 => k_is); (case zk5 => k_is); (case zk6 => k_is); k_whole; intro x' d' h' F' N' l1 l2; (try k_lt l1); (try k_lt2 l2); (try k_sweep); (refine' code_def ?k1 ?k2 ?k3 ?k4 ?k5 ?kA ?kF ?kK ?k6 ?k7 ?k8 ?k9 ?kB ?_ ?c2 ?c3 ?c4 ?c5; (case kA => exact rfl); (case kF => exact rfl); (case kK => first | exact rfl | assumption); (case k1 => k_asm); (case k2 => k_asm); (case k3 => k_asm); (case k4 => k_asm); (case k5 => k_asm); (case k6 => k_is); (case k7 => k_is); (case k8 => ktr_room); (case k9 => first | exact BindsTo.of_eq rfl | exact binds_K (by k_in) rfl (by k_is) rfl rfl rfl); (case c5 => decide); (case kB => exact locs rfl); (case c2 => exact rfl); (case c3 => exact rfl); (case c4 => exact rfl); k_whole; intro g' L' h' FG' F' N' B' X' T'; (try dsimp only); (try k_fold)))))
local macro_rules | `(tactic| walk_at "call ref") => `(tactic| (k_here; k_dflt (refine' useKidN ?k1 ?k2 ?k3 ?k4 ?k5 ?kK ?kC ?kS ?kd ?ku ?_; (case k1 => k_asm); (case k2 => k_asm); (case k3 => k_asm); (case k4 => k_asm); (case k5 => k_asm); (case kK => first | exact rfl | assumption); (case kC => assumption); (case kS => ktd_sub); (case kd => ktr_room); (case ku => ktr_units); k_whole; intro r9 tl9 h9 tk9 F9 N9 p9; (try dsimp only); (try k_fold))))
set_option maxRecDepth 100000 in
set_option maxHeartbeats 8000000 in
theorem node_con (w : World) (mean : ExcName → Option Value) (mg mb : Str → Option Value) (d : Tree) : ∀ (news : List (Addr × Obj)) (v : Value), TreeIn news v d →
    ConN w mean mg mb 351 [v] (d.size + 10) news d := by
  w_on
  induction d with
  | col k =>
    intro news v R
    intro dp un gd cn cs a ccd cl outer A₀ base h₀ L m s Q E B F X N T hk hd hu hret
    cases R
    simp only [Tree.size] at hd hu
    refine wpAny_call ?_
    k_dflt ktr_enter
    k_steps
    exact endN hret (by k_asm) (by k_asm) (by ktd_sub) (NodeIn.col (.head _) (.tail _ (.head _)))
  | lit v =>
    intro news v R
    intro dp un gd cn cs a ccd cl outer A₀ base h₀ L m s Q E B F X N T hk hd hu hret
    cases R
    simp only [Tree.size] at hd hu
    refine wpAny_call ?_
    k_dflt ktr_enter
    k_steps
    exact endN hret (by k_asm) (by k_asm) (by ktd_sub) (NodeIn.lit (.head _) (.tail _ (.head _)))
  | sign op d1 IH1 =>
    intro news v R
    intro dp un gd cn cs a ccd cl outer A₀ base h₀ L m s Q E B F X N T hk hd hu hret
    cases R with
    | @sign a t u n op v d m1 R1 =>
    have K1 : KidN w mean mg mb 351 [v] (d1.size + 10) news d1 := fun news' hs => IH1 _ _ (R1.mono hs)
    simp only [Tree.size] at hd hu
    refine wpAny_call ?_
    k_dflt ktr_enter
    k_steps
    exact endN hret (by k_asm) (by k_asm) (by ktd_sub) (NodeIn.sign (.head _) (.tail _ (.head _)) (NodeIn.mono (by assumption) (by ktd_sub)))
  | both op d1 d2 IH1 IH2 =>
    intro news v R
    intro dp un gd cn cs a ccd cl outer A₀ base h₀ L m s Q E B F X N T hk hd hu hret
    cases R with
    | @both a t u n op v v' d1 d2 m1 R1 R2 =>
    have K1 : KidN w mean mg mb 351 [v] (d1.size + 10) news d1 := fun news' hs => IH1 _ _ (R1.mono hs)
    have K2 : KidN w mean mg mb 351 [v'] (d2.size + 10) news d2 := fun news' hs => IH2 _ _ (R2.mono hs)
    simp only [Tree.size] at hd hu
    refine wpAny_call ?_
    k_dflt ktr_enter
    k_steps
    exact endN hret (by k_asm) (by k_asm) (by ktd_sub) (NodeIn.both (.head _) (.tail _ (.head _)) (NodeIn.mono (by assumption) (by ktd_sub)) (NodeIn.mono (by assumption) (by ktd_sub)))
  | cast c d1 IH1 =>
    intro news v R
    intro dp un gd cn cs a ccd cl outer A₀ base h₀ L m s Q E B F X N T hk hd hu hret
    cases R with
    | @cast a t u n c v d m1 R1 =>
    have K1 : KidN w mean mg mb 351 [v] (d1.size + 10) news d1 := fun news' hs => IH1 _ _ (R1.mono hs)
    simp only [Tree.size] at hd hu
    refine wpAny_call ?_
    k_dflt ktr_enter
    k_steps
    exact endN hret (by k_asm) (by k_asm) (by ktd_sub) (NodeIn.cast (.head _) (.tail _ (.head _)) (NodeIn.mono (by assumption) (by ktd_sub)))
  | collate c d1 IH1 =>
    intro news v R
    intro dp un gd cn cs a ccd cl outer A₀ base h₀ L m s Q E B F X N T hk hd hu hret
    cases R with
    | @collate a t u n c v d m1 R1 =>
    have K1 : KidN w mean mg mb 351 [v] (d1.size + 10) news d1 := fun news' hs => IH1 _ _ (R1.mono hs)
    simp only [Tree.size] at hd hu
    refine wpAny_call ?_
    k_dflt ktr_enter
    k_steps
    exact endN hret (by k_asm) (by k_asm) (by ktd_sub) (NodeIn.collate (.head _) (.tail _ (.head _)) (NodeIn.mono (by assumption) (by ktd_sub)))
  | call d1 IH1 =>
    intro news v R
    intro dp un gd cn cs a ccd cl outer A₀ base h₀ L m s Q E B F X N T hk hd hu hret
    cases R with
    | @call a t n v d m1 R1 =>
    have K1 : KidN w mean mg mb 351 [v] (d1.size + 10) news d1 := fun news' hs => IH1 _ _ (R1.mono hs)
    simp only [Tree.size] at hd hu
    refine wpAny_call ?_
    k_dflt ktr_enter
    k_steps
    exact endN hret (by k_asm) (by k_asm) (by ktd_sub) (NodeIn.call (.head _) (.tail _ (.head _)))
end

-- part Tk
section
local macro_rules | `(tactic| walk_at "idle0") => `(tactic| skip)
local macro_rules | `(tactic| walk_at "idle1") => `(tactic| skip)
local macro_rules | `(tactic| walk_at "idle2") => `(tactic| skip)
local macro_rules | `(tactic| walk_at "idle3") => `(tactic| skip)
local macro_rules | `(tactic| walk_at "idle4") => `(tactic| skip)
local macro_rules | `(tactic| walk_at "idle5") => `(tactic| skip)
local macro_rules | `(tactic| walk_at "idle6") => `(tactic| skip)
local macro_rules | `(tactic| walk_at "idle7") => `(tactic| skip)
local macro_rules | `(tactic| k_mem) => `(tactic| first | exact List.Mem.head _ | ktr_member | (refine List.mem_cons_of_mem _ ?_; k_mem))
local macro_rules | `(tactic| walk_at "ite") => `(tactic| (k_closed; k_dflt (first | (refine' ite_pos ?zi1 ?_; (case zi1 => decide +kernel)) | (refine' ite_neg ?zi2 ?_; (case zi2 => decide +kernel)))))
local macro_rules | `(tactic| k_all) => `(tactic| assumption)
theorem fm_lo (x : Int) {m : Int} (h : 1 ≤ m) : 0 ≤ x.fmod m := by rw [Int.fmod_eq_emod_of_nonneg _ (by omega)]; exact Int.emod_nonneg _ (by omega)
theorem fm_hi (x : Int) {m : Int} (h : 1 ≤ m) : x.fmod m < m := by rw [Int.fmod_eq_emod_of_nonneg _ (by omega)]; exact Int.emod_lt_of_pos _ (by omega)
theorem fd_lo {x m : Int} (hx : 0 ≤ x) (h : 1 ≤ m) : 0 ≤ x.fdiv m := by rw [Int.fdiv_eq_ediv_of_nonneg _ (by omega)]; exact Int.ediv_nonneg hx (by omega)
theorem mulOk_rest (a x y : Int) : IntMulOk ([a, Int.fmod x 2147483647].getD (Int.toNat 1) 0) y := by
  refine .of_left (intBits_le_iff.mpr ?_)
  show (Int.fmod x 2147483647).natAbs < 2 ^ 64
  have h1 := fm_lo x (m := 2147483647) (by decide)
  have h2 := fm_hi x (m := 2147483647) (by decide)
  omega
local macro_rules | `(tactic| walk_at "binaryOp Mult int int") => `(tactic| (k_here; k_dflt (refine' PyProof.Rows.mul_int ?_ (mulOk_rest _ _ _))))
set_option maxRecDepth 100000 in
set_option maxHeartbeats 8000000 in
theorem take_con (w : World) (mean : ExcName → Option Value) (mg mb : Str → Option Value) (x : Addr) (a b : Int) (t u t1 : Tok) (n : Nat) (top : Int) (news : List (Addr × Obj)) (hab : SrcOk a b) (ht : 1 ≤ top ∧ top ≤ 100) (hn : ∀ p ∈ news, p.1 ≠ x) :
    Con w mean mg mb 337 [.ref x, .int top t1] 5 ((x, srcOf a b t u n) :: news) (fun r news' => ∃ i t' a' b' u1 u2 n', r = .int i t' ∧ 0 ≤ i ∧ i < top ∧ SrcOk a' b' ∧ news' = (x, srcOf a' b' u1 u2 n') :: news) := by
  w_on
  obtain ⟨ha, hb, hb2⟩ := hab
  obtain ⟨ht1, ht2⟩ := ht
  intro dp un gd cn cs c ccd cl outer A₀ base h₀ L m s Q E B F X N T hk hd hu hret
  refine wpAny_call ?_
  k_dflt ktr_enter
  k_steps
  · exact hret _ _ _ _ (by k_asm) (by k_asm) ⟨_, _, _, _, _, _, _, rfl, fm_lo _ ht1, fm_hi _ ht1, ⟨fd_lo ha ht1, hb, hb2⟩, rfl⟩
  · exact hret _ _ _ _ (by k_asm) (by k_asm) ⟨_, _, _, _, _, _, _, rfl, fm_lo _ ht1, fm_hi _ ht1, ⟨ha, fm_lo _ (by decide), fm_hi _ (by decide)⟩, rfl⟩
end

-- part Po
section
local macro_rules | `(tactic| walk_at "idle0") => `(tactic| skip)
local macro_rules | `(tactic| walk_at "idle1") => `(tactic| skip)
local macro_rules | `(tactic| walk_at "idle2") => `(tactic| skip)
local macro_rules | `(tactic| walk_at "idle3") => `(tactic| skip)
local macro_rules | `(tactic| walk_at "idle4") => `(tactic| skip)
local macro_rules | `(tactic| walk_at "idle5") => `(tactic| skip)
local macro_rules | `(tactic| walk_at "idle6") => `(tactic| skip)
local macro_rules | `(tactic| walk_at "idle7") => `(tactic| skip)
local macro_rules | `(tactic| walk_at "idle8") => `(tactic| skip)
local macro_rules | `(tactic| walk_at "idle9") => `(tactic| skip)
local macro_rules | `(tactic| k_mem) => `(tactic| first | exact List.Mem.head _ | ktr_member | (refine List.mem_cons_of_mem _ ?_; k_mem))
local macro_rules | `(tactic| walk_at "ite") => `(tactic| (k_closed; k_dflt (first | (refine' ite_pos ?zi1 ?_; (case zi1 => decide +kernel)) | (refine' ite_neg ?zi2 ?_; (case zi2 => decide +kernel)))))
set_option maxRecDepth 100000 in
set_option maxHeartbeats 8000000 in
theorem pool_con (w : World) (mean : ExcName → Option Value) (mg mb : Str → Option Value) (l : Addr) (vs : List Value) (ns : List Int) (k : Int) (t1 : Tok) (news : List (Addr × Obj)) (hk0 : 0 ≤ k ∧ k ≤ 2) (hi : IntsAre vs ns) (hlen : ns.length ≤ 63)
    (dp un : Nat) (gd : Option (List Code)) (cn : Str) (cs : Scope) (c : Addr) (ccd : Value) (cl : List (Str × Addr)) (outer : List Env) (A₀ : Around) (base h₀ : Heap) (L : Addr) (m : Str → Option Value) (s : Shared) (Q E : Value → Shared → Prop)
    (B : Below A₀ base outer h₀) (F : Fr h₀ L s.heap m) (X : (kt9.heap_1 w.params).In h₀) (N : News h₀ L s.heap news) (T : Top vw (looseW vw [Str.ofString "affinity_of", Str.ofString "collation_of"]) mean mg mb h₀) (hk : cs.kind = .function) (hd : dp + 5 < recursionLimit) (hu : un + 8 * 5 < cLine)
    (hl : h₀.IsList l vs.toArray)
    (hret : ∀ a x y t u n h' tk', Fr h₀ L h' m → News h₀ L h' ((a, srcOf x y t u n) :: news) → SrcOk x y → (∀ p ∈ news, p.1 ≠ a) → Q (.ref a) { s with heap := h', toks := tk' }) :
    wpAny (model PySem.Challenge.rw_nt0097_01.row.prog w) (ktrTop dp un gd cn cs L c ccd cl outer) (call (.ref 330) [.ref l, .int k t1]) Q E s := by
  w_on
  refine wpAny_call ?_
  k_dflt ktr_enter
  (rename (Fr h₀ L _ m) => FG9; have hl2 := stays_list FG9.keep hl)
  k_steps
  all_goals (
    refine' hret _ _ _ _ _ _ _ _ ?zF ?zN ?zO ?zP
    case zP => exact fun p hp => Nat.ne_of_lt (by first | exact l1 p hp | (rename (∀ p ∈ news, p.1 < _) => l9; exact l9 p hp))
    case zF => k_asm
    case zN => k_asm
    case zO => exact ⟨by first | exact Int.le_refl 0 | exact Int.le_trans (b := 10 ^ Int.toNat 18) (by decide) (by assumption), fm_lo _ (by decide), fm_hi _ (by decide)⟩)
end

-- part Dr
section
local macro_rules | `(tactic| walk_at "idle0") => `(tactic| skip)
local macro_rules | `(tactic| walk_at "idle1") => `(tactic| skip)
local macro_rules | `(tactic| walk_at "idle2") => `(tactic| skip)
local macro_rules | `(tactic| walk_at "idle3") => `(tactic| skip)
local macro_rules | `(tactic| walk_at "idle4") => `(tactic| skip)
local macro_rules | `(tactic| walk_at "idle5") => `(tactic| skip)
local macro_rules | `(tactic| walk_at "idle6") => `(tactic| skip)
local macro_rules | `(tactic| walk_at "idle7") => `(tactic| skip)
local macro_rules | `(tactic| walk_at "idle8") => `(tactic| skip)
local macro_rules | `(tactic| k_mem) => `(tactic| first | exact List.Mem.head _ | ktr_member | (refine List.mem_cons_of_mem _ ?_; k_mem))
local macro_rules | `(tactic| walk_at "ite") => `(tactic| (k_closed; k_dflt (first | (refine' ite_pos ?zi1 ?_; (case zi1 => decide +kernel)) | (refine' ite_neg ?zi2 ?_; (case zi2 => decide +kernel)))))
theorem useTake {w : World} {mean : ExcName → Option Value} {mg mb : Str → Option Value} {x : Addr} {a b : Int} {t u t1 : Tok} {n : Nat} {top : Int} {l rest : List (Addr × Obj)} {dp un : Nat} {gd : Option (List Code)} {cn : Str} {cs : Scope} {c : Addr} {ccd : Value} {cl : List (Str × Addr)} {outer : List Env} {A₀ : Around} {base h₀ : Heap} {L : Addr} {m : Str → Option Value} {s : Shared}
    {Q E : Value → Shared → Prop} (B : Below A₀ base outer h₀) (F : Fr h₀ L s.heap m) (X : (kt9.heap_1 w.params).In h₀) (N : News h₀ L s.heap l) (T : Top vw (looseW vw [Str.ofString "affinity_of", Str.ofString "collation_of"]) mean mg mb h₀) (hk : cs.kind = .function)
    (hf : Front (x, srcOf a b t u n) l rest) (hn : ∀ p ∈ rest, p.1 ≠ x) (hab : SrcOk a b) (ht : 1 ≤ top ∧ top ≤ 100) (hd : dp + 5 < recursionLimit) (hu : un + 8 * 5 < cLine)
    (ret : ∀ i t' a' b' u1 u2 n' h' tk', Fr h₀ L h' m → News h₀ L h' ((x, srcOf a' b' u1 u2 n') :: rest) → SrcOk a' b' → 0 ≤ i → i < top → Q (.int i t') { s with heap := h', toks := tk' }) :
    wpAny (model PySem.Challenge.rw_nt0097_01.row.prog w) (ktrTop dp un gd cn cs L c ccd cl outer) (call (.ref 337) [.ref x, .int top t1]) Q E s :=
  take_con w mean mg mb x a b t u t1 n top rest hab ht hn _ _ _ _ _ _ _ _ _ _ _ _ _ _ _ _ _ B F X (hf.news N) T hk hd hu fun r news' h' tk' F' N' p => by
    obtain ⟨i, t', a', b', u1, u2, n', rfl, h0, h1, hab', rfl⟩ := p
    exact ret i t' a' b' u1 u2 n' h' tk' F' N' hab' h0 h1
theorem useKidD {w : World} {mean : ExcName → Option Value} {mg mb : Str → Option Value} {x : Addr} {a b : Int} {t u t1 : Tok} {n k : Nat} {high : Int} {l rest : List (Addr × Obj)} {dp un : Nat} {gd : Option (List Code)} {cn : Str} {cs : Scope} {c : Addr} {ccd : Value} {cl : List (Str × Addr)} {outer : List Env} {A₀ : Around} {base h₀ : Heap} {L : Addr} {m : Str → Option Value} {s : Shared}
    {Q E : Value → Shared → Prop} (B : Below A₀ base outer h₀) (F : Fr h₀ L s.heap m) (X : (kt9.heap_1 w.params).In h₀) (N : News h₀ L s.heap l) (T : Top vw (looseW vw [Str.ofString "affinity_of", Str.ofString "collation_of"]) mean mg mb h₀) (hk : cs.kind = .function)
    (C : KidD w mean mg mb n) (hf : Front (x, srcOf a b t u k) l rest) (hn : ∀ p ∈ rest, p.1 ≠ x) (hab : SrcOk a b) (hh : high = (n : Int)) (hd : dp + (n + 10) < recursionLimit) (hu : un + 8 * (n + 10) < cLine)
    (ret : ∀ r d a' b' u1 u2 k' tl h' tk', Fr h₀ L h' m → News h₀ L h' ((x, srcOf a' b' u1 u2 k') :: (tl ++ rest)) → SrcOk a' b' → (∀ p ∈ tl ++ rest, p.1 ≠ x) → TreeIn (tl ++ rest) r d → d.size < 2 ^ (n + 1) → Q r { s with heap := h', toks := tk' }) :
    wpAny (model PySem.Challenge.rw_nt0097_01.row.prog w) (ktrTop dp un gd cn cs L c ccd cl outer) (call (.ref 344) [.ref x, .int high t1]) Q E s :=
  C x a b t u t1 k high rest hab hn hh _ _ _ _ _ _ _ _ _ _ _ _ _ _ _ _ _ B F X (hf.news N) T hk hd hu fun r news' h' tk' F' N' p => by
    obtain ⟨d, a', b', u1, u2, k', tl, hab', rfl, hoff, R, hs⟩ := p
    exact ret r d a' b' u1 u2 k' tl h' tk' F' N' hab' hoff R hs
theorem endD {x : Addr} {n : Nat} {news : List (Addr × Obj)} {h₀ : Heap} {L : Addr} {m : Str → Option Value} {Q : Value → Shared → Prop} {s : Shared} {h' : Heap} {tk : Nat}
  (hret : ∀ r news' h' tk', Fr h₀ L h' m → News h₀ L h' news' → DrawnPost x n news r news' → Q r { s with heap := h', toks := tk' }) (hn : ∀ p ∈ news, p.1 ≠ x) {r : Value} {d : Tree} {l rest : List (Addr × Obj)} {a b : Int} {t u : Tok} {k : Nat}
  (F : Fr h₀ L h' m) (N : News h₀ L h' l) (hf : Front (x, srcOf a b t u k) l rest) (hsub : ∀ p ∈ news, p ∈ rest) (hoff : ∀ p ∈ rest, p.1 ≠ x) (hab : SrcOk a b) (R : TreeIn rest r d) (hs : d.size < 2 ^ (n + 1)) : Q r { s with heap := h', toks := tk } :=
  hret _ ((x, srcOf a b t u k) :: (rest ++ news)) h' tk F (fun p hp => by
    have N' := hf.news N
    rcases List.mem_cons.mp hp with rfl | hp
    · exact N' _ (.head _)
    · exact N' p (.tail _ ((List.mem_append.mp hp).elim id (hsub p)))) ⟨d, a, b, t, u, k, rest, hab, rfl, fun p hp => (List.mem_append.mp hp).elim (hoff p) (hn p), R.mono fun p hp => List.mem_append_left _ hp, hs⟩
local macro_rules | `(tactic| k_all) => `(tactic| first | assumption | (refine' List.forall_mem_cons.mpr ⟨?zka, ?zkb⟩; (case zka => k_ne); (case zkb => k_all)))
local macro_rules | `(tactic| ktd_sub) => `(tactic| (intro p hp; repeat (first | exact hp | refine List.mem_cons_of_mem _ ?_ | refine List.mem_append_right _ ?_)))
local macro_rules | `(tactic| walk_at "call ref") => `(tactic| (k_here; k_dflt (refine' useTake ?k1 ?k2 ?k3 ?k4 ?k5 ?kK ?kf ?kn ?ka ?kt ?kd ?ku ?_; (case k1 => k_asm); (case k2 => k_asm); (case k3 => k_asm); (case k4 => k_asm); (case k5 => k_asm); (case kK => first | exact rfl | assumption); (case kf => (repeat (first | exact Front.head | apply Front.tail))); (case kn => k_all); (case ka => assumption); (case kt => exact ⟨by decide, by decide⟩); (case kd => ktr_room); (case ku => ktr_units); k_whole; intro i9 t9 a9 b9 u9 v9 n9 h9 tk9 F9 N9 hab9 h0 h1; (try ((have hi9 : i9 = 0 ∨ i9 = 1 ∨ i9 = 2 ∨ i9 = 3 ∨ i9 = 4 := by omega); (rcases hi9 with hi9 | hi9 | hi9 | hi9 | hi9) <;> (subst hi9))); (all_goals (try (exfalso; omega))); (all_goals (try dsimp only)); (all_goals (try k_fold)))))
local macro_rules | `(tactic| walk_at "call ref") => `(tactic| (k_here; k_dflt (refine' useKidD ?k1 ?k2 ?k3 ?k4 ?k5 ?kK ?kC ?kf ?kn ?ka ?kh ?kd ?ku ?_; (case k1 => k_asm); (case k2 => k_asm); (case k3 => k_asm); (case k4 => k_asm); (case k5 => k_asm); (case kK => first | exact rfl | assumption); (case kC => assumption); (case kf => (repeat (first | exact Front.head | apply Front.tail))); (case kn => k_all); (case ka => assumption); (case kh => omega); (case kd => ktr_room); (case ku => ktr_units); k_whole; intro r9 d9 a9 b9 u9 v9 n9 tl9 h9 tk9 F9 N9 hab9 hoff9 R9 hs9; (try dsimp only); (try k_fold))))
theorem TreeIn.col1 {news : List (Addr × Obj)} {a b : Addr} {t u u' : Tok} {n m : Nat} (h : (a, tupOf #[.str (Str.ofString "column") t, .ref b] n) ∈ news) (h' : (b, tupOf #[.str (Str.ofString "text") u, .str (Str.ofString "nocase") u'] m) ∈ news) : TreeIn news (.ref a) (.col .textNocase) := .col (k := .textNocase) h h'
theorem TreeIn.col2 {news : List (Addr × Obj)} {a b : Addr} {t u u' : Tok} {n m : Nat} (h : (a, tupOf #[.str (Str.ofString "column") t, .ref b] n) ∈ news) (h' : (b, tupOf #[.str (Str.ofString "integer") u, .str (Str.ofString "binary") u'] m) ∈ news) : TreeIn news (.ref a) (.col .intBinary) := .col (k := .intBinary) h h'
theorem TreeIn.col3 {news : List (Addr × Obj)} {a b : Addr} {t u u' : Tok} {n m : Nat} (h : (a, tupOf #[.str (Str.ofString "column") t, .ref b] n) ∈ news) (h' : (b, tupOf #[.str (Str.ofString "blob") u, .str (Str.ofString "rtrim") u'] m) ∈ news) : TreeIn news (.ref a) (.col .blobRtrim) := .col (k := .blobRtrim) h h'
theorem TreeIn.col4 {news : List (Addr × Obj)} {a b : Addr} {t u u' : Tok} {n m : Nat} (h : (a, tupOf #[.str (Str.ofString "column") t, .ref b] n) ∈ news) (h' : (b, tupOf #[.str (Str.ofString "numeric") u, .str (Str.ofString "nocase") u'] m) ∈ news) : TreeIn news (.ref a) (.col .numNocase) := .col (k := .numNocase) h h'
theorem TreeIn.col5 {news : List (Addr × Obj)} {a b : Addr} {t u' : Tok} {n m : Nat} (h : (a, tupOf #[.str (Str.ofString "column") t, .ref b] n) ∈ news) (h' : (b, tupOf #[.none, .str (Str.ofString "binary") u'] m) ∈ news) : TreeIn news (.ref a) (.col .noneBinary) := .col (k := .noneBinary) (u := 0) h h'
theorem TreeIn.lit1 {news : List (Addr × Obj)} {a : Addr} {t u : Tok} {n : Nat} (h : (a, tupOf #[.str (Str.ofString "literal") t, .str (Str.ofString "x") u] n) ∈ news) : TreeIn news (.ref a) (.lit (.str (Str.ofString "x") u)) := .lit h (.inr (.inr ⟨_, rfl⟩))
theorem TreeIn.lit2 {news : List (Addr × Obj)} {a : Addr} {t u : Tok} {n : Nat} (h : (a, tupOf #[.str (Str.ofString "literal") t, .int 5 u] n) ∈ news) : TreeIn news (.ref a) (.lit (.int 5 u)) := .lit h (.inr (.inl ⟨_, rfl⟩))
theorem TreeIn.lit3 {news : List (Addr × Obj)} {a : Addr} {t : Tok} {n : Nat} (h : (a, tupOf #[.str (Str.ofString "literal") t, .none] n) ∈ news) : TreeIn news (.ref a) (.lit .none) := .lit h (.inl rfl)
theorem TreeIn.cast1 {news : List (Addr × Obj)} {a : Addr} {t u : Tok} {n : Nat} {v : Value} {d : Tree} (h : (a, tupOf #[.str (Str.ofString "cast") t, .str (Str.ofString "INT") u, v] n) ∈ news) (r : TreeIn news v d) : TreeIn news (.ref a) (.cast .int d) := .cast (c := .int) h r
theorem TreeIn.cast2 {news : List (Addr × Obj)} {a : Addr} {t u : Tok} {n : Nat} {v : Value} {d : Tree} (h : (a, tupOf #[.str (Str.ofString "cast") t, .str (Str.ofString "Text") u, v] n) ∈ news) (r : TreeIn news v d) : TreeIn news (.ref a) (.cast .text d) := .cast (c := .text) h r
theorem TreeIn.cast3 {news : List (Addr × Obj)} {a : Addr} {t u : Tok} {n : Nat} {v : Value} {d : Tree} (h : (a, tupOf #[.str (Str.ofString "cast") t, .str (Str.ofString "blob") u, v] n) ∈ news) (r : TreeIn news v d) : TreeIn news (.ref a) (.cast .blob d) := .cast (c := .blob) h r
theorem TreeIn.cast4 {news : List (Addr × Obj)} {a : Addr} {t u : Tok} {n : Nat} {v : Value} {d : Tree} (h : (a, tupOf #[.str (Str.ofString "cast") t, .str (Str.ofString "DECIMAL") u, v] n) ∈ news) (r : TreeIn news v d) : TreeIn news (.ref a) (.cast .dec d) := .cast (c := .dec) h r
theorem TreeIn.coll1 {news : List (Addr × Obj)} {a : Addr} {t u : Tok} {n : Nat} {v : Value} {d : Tree} (h : (a, tupOf #[.str (Str.ofString "collate") t, .str (Str.ofString "NoCase") u, v] n) ∈ news) (r : TreeIn news v d) : TreeIn news (.ref a) (.collate .noCase d) := .collate (c := .noCase) h r
theorem TreeIn.coll2 {news : List (Addr × Obj)} {a : Addr} {t u : Tok} {n : Nat} {v : Value} {d : Tree} (h : (a, tupOf #[.str (Str.ofString "collate") t, .str (Str.ofString "rtrim") u, v] n) ∈ news) (r : TreeIn news v d) : TreeIn news (.ref a) (.collate .rtrim d) := .collate (c := .rtrim) h r
theorem TreeIn.coll3 {news : List (Addr × Obj)} {a : Addr} {t u : Tok} {n : Nat} {v : Value} {d : Tree} (h : (a, tupOf #[.str (Str.ofString "collate") t, .str (Str.ofString "BINARY") u, v] n) ∈ news) (r : TreeIn news v d) : TreeIn news (.ref a) (.collate .binary d) := .collate (c := .binary) h r
theorem sz_leaf (n : Nat) : 1 < 2 ^ (n + 1) := Nat.one_lt_two_pow (Nat.succ_ne_zero n)
theorem sz_one {n k : Nat} (h : k < 2 ^ (n + 1)) : k + 1 < 2 ^ (n + 1 + 1) := by rw [Nat.pow_succ 2 (n + 1)]; omega
theorem sz_two {n k j : Nat} (h : k < 2 ^ (n + 1)) (h' : j < 2 ^ (n + 1)) : k + j + 1 < 2 ^ (n + 1 + 1) := by rw [Nat.pow_succ 2 (n + 1)]; omega
-- ktr_rel: the tree that is handed back
local macro_rules | `(tactic| ktr_rel) => `(tactic| first
  | exact TreeIn.col1 (.head _) (by k_mem) | exact TreeIn.col2 (.head _) (by k_mem) | exact TreeIn.col3 (.head _) (by k_mem) | exact TreeIn.col4 (.head _) (by k_mem) | exact TreeIn.col5 (.head _) (by k_mem)
  | exact TreeIn.lit1 (.head _) | exact TreeIn.lit2 (.head _) | exact TreeIn.lit3 (.head _)
  | exact TreeIn.sign (.head _) (TreeIn.mono (by assumption) (by ktd_sub))
  | exact TreeIn.both (.head _) (TreeIn.mono (by assumption) (by ktd_sub)) (TreeIn.mono (by assumption) (by ktd_sub))
  | exact TreeIn.cast1 (.head _) (TreeIn.mono (by assumption) (by ktd_sub)) | exact TreeIn.cast2 (.head _) (TreeIn.mono (by assumption) (by ktd_sub)) | exact TreeIn.cast3 (.head _) (TreeIn.mono (by assumption) (by ktd_sub)) | exact TreeIn.cast4 (.head _) (TreeIn.mono (by assumption) (by ktd_sub))
  | exact TreeIn.coll1 (.head _) (TreeIn.mono (by assumption) (by ktd_sub)) | exact TreeIn.coll2 (.head _) (TreeIn.mono (by assumption) (by ktd_sub)) | exact TreeIn.coll3 (.head _) (TreeIn.mono (by assumption) (by ktd_sub))
  | exact TreeIn.call (.head _) (TreeIn.mono (by assumption) (by ktd_sub)))
local macro_rules | `(tactic| ktr_unf) => `(tactic| ((refine' endD ?ze1 ?ze2 ?ze3 ?ze4 ?ze5 ?ze6 ?ze7 ?ze8 ?ze9 ?ze10); (case ze1 => assumption); (case ze2 => assumption); (case ze3 => k_asm); (case ze4 => k_asm); (case ze5 => (repeat (first | exact Front.head | apply Front.tail))); (case ze6 => ktd_sub); (case ze7 => k_all); (case ze8 => assumption)))
set_option maxRecDepth 100000 in
set_option maxHeartbeats 8000000 in
theorem drawn_zero (w : World) (mean : ExcName → Option Value) (mg mb : Str → Option Value) : KidD w mean mg mb 0 := by
  w_on
  intro x a b t u t1 k high news hab hn hh
  intro dp un gd cn cs c ccd cl outer A₀ base h₀ L m s Q E B F X N T hk hd hu hret
  have hh0 : high = 0 := by simpa using hh
  subst hh0
  refine wpAny_call ?_
  k_dflt ktr_enter
  k_steps
  all_goals (
    ktr_unf
    case ze9 => ktr_rel
    case ze10 => exact sz_leaf 0)
end

-- part Ds
section
local macro_rules | `(tactic| walk_at "idle0") => `(tactic| skip)
local macro_rules | `(tactic| walk_at "idle1") => `(tactic| skip)
local macro_rules | `(tactic| walk_at "idle2") => `(tactic| skip)
local macro_rules | `(tactic| walk_at "idle3") => `(tactic| skip)
local macro_rules | `(tactic| walk_at "idle4") => `(tactic| skip)
local macro_rules | `(tactic| walk_at "idle5") => `(tactic| skip)
local macro_rules | `(tactic| walk_at "idle6") => `(tactic| skip)
local macro_rules | `(tactic| walk_at "idle7") => `(tactic| skip)
local macro_rules | `(tactic| walk_at "idle8") => `(tactic| skip)
local macro_rules | `(tactic| walk_at "idle9") => `(tactic| skip)
local macro_rules | `(tactic| k_mem) => `(tactic| first | exact List.Mem.head _ | ktr_member | (refine List.mem_cons_of_mem _ ?_; k_mem))
local macro_rules | `(tactic| walk_at "ite") => `(tactic| (k_closed; k_dflt (first | (refine' ite_pos ?zi1 ?_; (case zi1 => decide +kernel)) | (refine' ite_neg ?zi2 ?_; (case zi2 => decide +kernel)))))
local macro_rules | `(tactic| k_all) => `(tactic| first | assumption | (refine' List.forall_mem_cons.mpr ⟨?zka, ?zkb⟩; (case zka => k_ne); (case zkb => k_all)))
local macro_rules | `(tactic| ktd_sub) => `(tactic| (intro p hp; repeat (first | exact hp | refine List.mem_cons_of_mem _ ?_ | refine List.mem_append_right _ ?_)))
local macro_rules | `(tactic| walk_at "call ref") => `(tactic| (k_here; k_dflt (refine' useTake ?k1 ?k2 ?k3 ?k4 ?k5 ?kK ?kf ?kn ?ka ?kt ?kd ?ku ?_; (case k1 => k_asm); (case k2 => k_asm); (case k3 => k_asm); (case k4 => k_asm); (case k5 => k_asm); (case kK => first | exact rfl | assumption); (case kf => (repeat (first | exact Front.head | apply Front.tail))); (case kn => k_all); (case ka => assumption); (case kt => exact ⟨by decide, by decide⟩); (case kd => ktr_room); (case ku => ktr_units); k_whole; intro i9 t9 a9 b9 u9 v9 n9 h9 tk9 F9 N9 hab9 h0 h1; (try ((have hi9 : i9 = 0 ∨ i9 = 1 ∨ i9 = 2 ∨ i9 = 3 ∨ i9 = 4 := by omega); (rcases hi9 with hi9 | hi9 | hi9 | hi9 | hi9) <;> (subst hi9))); (all_goals (try (exfalso; omega))); (all_goals (try dsimp only)); (all_goals (try k_fold)))))
local macro_rules | `(tactic| walk_at "call ref") => `(tactic| (k_here; k_dflt (refine' useKidD ?k1 ?k2 ?k3 ?k4 ?k5 ?kK ?kC ?kf ?kn ?ka ?kh ?kd ?ku ?_; (case k1 => k_asm); (case k2 => k_asm); (case k3 => k_asm); (case k4 => k_asm); (case k5 => k_asm); (case kK => first | exact rfl | assumption); (case kC => assumption); (case kf => (repeat (first | exact Front.head | apply Front.tail))); (case kn => k_all); (case ka => assumption); (case kh => omega); (case kd => ktr_room); (case ku => ktr_units); k_whole; intro r9 d9 a9 b9 u9 v9 n9 tl9 h9 tk9 F9 N9 hab9 hoff9 R9 hs9; (try dsimp only); (try k_fold))))
-- ktr_rel: the tree that is handed back
local macro_rules | `(tactic| ktr_rel) => `(tactic| first
  | exact TreeIn.col1 (.head _) (by k_mem) | exact TreeIn.col2 (.head _) (by k_mem) | exact TreeIn.col3 (.head _) (by k_mem) | exact TreeIn.col4 (.head _) (by k_mem) | exact TreeIn.col5 (.head _) (by k_mem)
  | exact TreeIn.lit1 (.head _) | exact TreeIn.lit2 (.head _) | exact TreeIn.lit3 (.head _)
  | exact TreeIn.sign (.head _) (TreeIn.mono (by assumption) (by ktd_sub))
  | exact TreeIn.both (.head _) (TreeIn.mono (by assumption) (by ktd_sub)) (TreeIn.mono (by assumption) (by ktd_sub))
  | exact TreeIn.cast1 (.head _) (TreeIn.mono (by assumption) (by ktd_sub)) | exact TreeIn.cast2 (.head _) (TreeIn.mono (by assumption) (by ktd_sub)) | exact TreeIn.cast3 (.head _) (TreeIn.mono (by assumption) (by ktd_sub)) | exact TreeIn.cast4 (.head _) (TreeIn.mono (by assumption) (by ktd_sub))
  | exact TreeIn.coll1 (.head _) (TreeIn.mono (by assumption) (by ktd_sub)) | exact TreeIn.coll2 (.head _) (TreeIn.mono (by assumption) (by ktd_sub)) | exact TreeIn.coll3 (.head _) (TreeIn.mono (by assumption) (by ktd_sub))
  | exact TreeIn.call (.head _) (TreeIn.mono (by assumption) (by ktd_sub)))
local macro_rules | `(tactic| ktr_unf) => `(tactic| ((refine' endD ?ze1 ?ze2 ?ze3 ?ze4 ?ze5 ?ze6 ?ze7 ?ze8 ?ze9 ?ze10); (case ze1 => assumption); (case ze2 => assumption); (case ze3 => k_asm); (case ze4 => k_asm); (case ze5 => (repeat (first | exact Front.head | apply Front.tail))); (case ze6 => ktd_sub); (case ze7 => k_all); (case ze8 => assumption)))
set_option maxRecDepth 100000 in
set_option maxHeartbeats 16000000 in
theorem drawn_succ (w : World) (mean : ExcName → Option Value) (mg mb : Str → Option Value) (n : Nat) (IH : KidD w mean mg mb n) : KidD w mean mg mb (n + 1) := by
  w_on
  intro x a b t u t1 k high news hab hn hh
  intro dp un gd cn cs c ccd cl outer A₀ base h₀ L m s Q E B F X N T hk hd hu hret
  have hh0 : 0 < high := by omega
  refine wpAny_call ?_
  k_dflt ktr_enter
  k_steps
  all_goals first
    | (exfalso; omega)
    | (ktr_unf
       case ze9 => ktr_rel
       case ze10 => first | exact sz_leaf _ | exact sz_one (by assumption) | exact sz_two (by assumption) (by assumption))
end

-- part Co
section
local macro_rules | `(tactic| walk_at "idle0") => `(tactic| skip)
local macro_rules | `(tactic| walk_at "idle1") => `(tactic| skip)
local macro_rules | `(tactic| walk_at "idle2") => `(tactic| skip)
local macro_rules | `(tactic| walk_at "idle3") => `(tactic| skip)
local macro_rules | `(tactic| walk_at "idle4") => `(tactic| skip)
local macro_rules | `(tactic| walk_at "idle5") => `(tactic| skip)
local macro_rules | `(tactic| walk_at "idle6") => `(tactic| skip)
local macro_rules | `(tactic| walk_at "idle7") => `(tactic| skip)
local macro_rules | `(tactic| walk_at "idle8") => `(tactic| skip)
local macro_rules | `(tactic| walk_at "idle9") => `(tactic| skip)
local macro_rules | `(tactic| walk_at "idle10") => `(tactic| skip)
local macro_rules | `(tactic| walk_at "idle11") => `(tactic| skip)
local macro_rules | `(tactic| k_mem) => `(tactic| first | exact List.Mem.head _ | ktr_member | (refine List.mem_cons_of_mem _ ?_; k_mem))
local macro_rules | `(tactic| walk_at "ite") => `(tactic| (k_closed; k_dflt (first | (refine' ite_pos ?zi1 ?_; (case zi1 => decide +kernel)) | (refine' ite_neg ?zi2 ?_; (case zi2 => decide +kernel)))))
theorem optC_cases {r : Value} {o : Option Coll} (h : ∃ t, r = optC t o) : (o = none ∧ r = .none) ∨ ∃ c t, o = some c ∧ r = .str c.low t := by
  obtain ⟨t, rfl⟩ := h
  cases o with
  | none => exact .inl ⟨rfl, rfl⟩
  | some c => exact .inr ⟨c, t, rfl, rfl⟩
theorem coll_a {d : Tree} {c : Coll} {x : Str} {t : Tok} (h : d.expl = some c) (e : x = c.low) : ∃ t', Value.str x t = .str d.coll.low t' := ⟨t, by rw [Tree.coll, h, e]⟩
theorem coll_b {d : Tree} {c : Coll} {x : Str} {t : Tok} (h : d.expl = none) (h' : d.ccol = some c) (e : x = c.low) : ∃ t', Value.str x t = .str d.coll.low t' := ⟨t, by rw [Tree.coll, h, h', e]⟩
theorem coll_c {d : Tree} {x : Str} {t : Tok} (h : d.expl = none) (h' : d.ccol = none) (e : x = Coll.binary.low) : ∃ t', Value.str x t = .str d.coll.low t' := ⟨t, by rw [Tree.coll, h, h', e]⟩
local macro_rules | `(tactic| walk_at "call ref") => `(tactic| (k_here; k_dflt (refine' useV ?k1 ?k2 ?k3 ?k4 ?k5 ?kK ?kC ?kd ?ku ?_; (case k1 => k_asm); (case k2 => k_asm); (case k3 => k_asm); (case k4 => k_asm); (case k5 => k_asm); (case kK => first | exact rfl | assumption); (case kC => first | exact expl_con _ _ _ _ (by assumption) | exact ccol_con _ _ _ _ (by assumption)); (case kd => ktr_room); (case ku => ktr_units); k_whole; intro r9 h9 tk9 F9 N9 p9; (rcases optC_cases p9 with ⟨hx9, e9⟩ | ⟨c9, t9, hx9, e9⟩) <;> (clear p9; subst e9; (try (cases c9; (all_goals simp only [Coll.low]))); (all_goals (try dsimp only)); (all_goals (try k_fold))))))
set_option maxRecDepth 100000 in
set_option maxHeartbeats 8000000 in
theorem collof_con9 (w : World) (mean : ExcName → Option Value) (mg mb : Str → Option Value) {news : List (Addr × Obj)} {v : Value} {d : Tree} (R : NodeIn news v d) :
    ConV w mean mg mb 316 [v] (d.size + 20) news (fun r => ∃ t, r = .str d.coll.low t) := by
  w_on
  intro dp un gd cn cs a ccd cl outer A₀ base h₀ L m s Q E B F X N T hk hd hu hret
  refine wpAny_call ?_
  k_dflt (refine' code_def ?k1 ?k2 ?k3 ?k4 ?k5 ?kA ?kF ?kK ?k6 ?k7 ?k8 ?k9 ?kB ?_ ?c2 ?c3 ?c4 ?c5; (case kA => exact rfl); (case kF => exact rfl); (case kK => first | exact rfl | assumption); (case k1 => k_asm); (case k2 => k_asm); (case k3 => k_asm); (case k4 => k_asm); (case k5 => k_asm); (case k6 => k_is); (case k7 => k_is); (case k8 => ktr_room); (case k9 => first | exact BindsTo.of_eq rfl | exact binds_K (by k_in) rfl (by k_is) rfl rfl rfl); (case c5 => decide); (case kB => exact locs rfl); (case c2 => exact rfl); (case c3 => exact rfl); (case c4 => exact rfl); k_whole; intro g' L' h' FG' F' N' B' X' T'; (try dsimp only); (try k_fold))
  k_steps
  all_goals first
    | exact endV hret (by k_asm) (by k_asm) (fun _ h => h) (coll_a (by assumption) rfl)
    | exact endV hret (by k_asm) (by k_asm) (fun _ h => h) (coll_b (by assumption) (by assumption) rfl)
    | exact endV hret (by k_asm) (by k_asm) (fun _ h => h) (coll_c (by assumption) (by assumption) rfl)
end

-- part Cm
section
local macro_rules | `(tactic| walk_at "idle0") => `(tactic| skip)
local macro_rules | `(tactic| walk_at "idle1") => `(tactic| skip)
local macro_rules | `(tactic| walk_at "idle2") => `(tactic| skip)
local macro_rules | `(tactic| walk_at "idle3") => `(tactic| skip)
local macro_rules | `(tactic| walk_at "idle4") => `(tactic| skip)
local macro_rules | `(tactic| walk_at "idle5") => `(tactic| skip)
local macro_rules | `(tactic| walk_at "idle6") => `(tactic| skip)
local macro_rules | `(tactic| walk_at "idle7") => `(tactic| skip)
local macro_rules | `(tactic| walk_at "idle8") => `(tactic| skip)
local macro_rules | `(tactic| walk_at "idle9") => `(tactic| skip)
local macro_rules | `(tactic| k_mem) => `(tactic| first | exact List.Mem.head _ | ktr_member | (refine List.mem_cons_of_mem _ ?_; k_mem))
local macro_rules | `(tactic| walk_at "ite") => `(tactic| (k_closed; k_dflt (first | (refine' ite_pos ?zi1 ?_; (case zi1 => decide +kernel)) | (refine' ite_neg ?zi2 ?_; (case zi2 => decide +kernel)))))
local macro_rules | `(tactic| walk_at "UnrEndW") => `(tactic| first
  | (refine endW (by assumption) (by assumption) _ (fun _ h => h) (by k_all) (by k_subL) ?_)
  | (refine endW (by assumption) (by assumption) _ (fun _ h => List.mem_cons_of_mem _ h) (by k_all) (by k_subL) ?_))
local macro_rules | `(tactic| walk_at "pyIter ref") => `(tactic| (k_here; (with_reducible show wpAny _ _ (pyIter (Value.ref _)) (fun it s₂ => TurnsAt _ _ _ _ _ _ _ _ _ it s₂) _ _); (rename Fr _ _ _ _ => lF'); (with_unfolding_all refine iter_tupTurns (by rfl) lF' (by assumption) (by k_mem) (by rfl) (by rfl) ?_); clear lF'; intro i' l1; (try k_lt l1)))
theorem cmp_a {d e : Tree} {c : Coll} {t : Tok} (h : d.expl = some c) : ∃ t', Value.str c.low t = .str (cmpColl d e).low t' := ⟨t, by rw [cmpColl, h]⟩
theorem cmp_b {d e : Tree} {c : Coll} {t : Tok} (h : d.expl = none) (h' : e.expl = some c) : ∃ t', Value.str c.low t = .str (cmpColl d e).low t' := ⟨t, by rw [cmpColl, h, h']⟩
theorem cmp_c {d e : Tree} {c : Coll} {t : Tok} (h : d.expl = none) (h' : e.expl = none) (g : d.ccol = some c) : ∃ t', Value.str c.low t = .str (cmpColl d e).low t' := ⟨t, by rw [cmpColl, h, h', g]⟩
theorem cmp_d {d e : Tree} {c : Coll} {t : Tok} (h : d.expl = none) (h' : e.expl = none) (g : d.ccol = none) (g' : e.ccol = some c) : ∃ t', Value.str c.low t = .str (cmpColl d e).low t' := ⟨t, by rw [cmpColl, h, h', g, g']⟩
theorem cmp_e {d e : Tree} {t : Tok} (h : d.expl = none) (h' : e.expl = none) (g : d.ccol = none) (g' : e.ccol = none) : ∃ t', Value.str (Str.ofString "binary") t = .str (cmpColl d e).low t' := ⟨t, by rw [cmpColl, h, h', g, g']; rfl⟩
theorem low_true (c : Coll) : ((c.low.length : Int) != 0) = true := by cases c <;> decide +kernel
theorem low_fit (c : Coll) : ¬ (c.low.length : Int) ≥ 2 ^ 63 := by cases c <;> decide +kernel
theorem truthy_low {prog : Program} {w : World} {A : Around} {E : Value → Shared → Prop} {s : Shared} {c : Coll} {t : Tok} {Q : Bool → Shared → Prop} (h : Q true { s with toks := s.toks + 1 + 1 }) : wpAny (model prog w) A (truthy (.str c.low t)) Q E s :=
  P.truthy_str (low_fit c) (by rw [low_true c]; exact h)
local macro_rules | `(tactic| walk_at "truthy str") => `(tactic| (k_here; (refine' truthy_low ?_)))
local macro_rules | `(tactic| walk_at "call ref") => `(tactic| (k_here; k_dflt (refine' useV ?k1 ?k2 ?k3 ?k4 ?k5 ?kK ?kC ?kd ?ku ?_; (case k1 => k_asm); (case k2 => k_asm); (case k3 => k_asm); (case k4 => k_asm); (case k5 => k_asm); (case kK => first | exact rfl | assumption); (case kC => first | exact expl_con _ _ _ _ (by assumption) | exact ccol_con _ _ _ _ (NodeIn.mono (by assumption) (by ktd_sub))); (case kd => ktr_room); (case ku => ktr_units); k_whole; intro r9 h9 tk9 F9 N9 p9; (rcases optC_cases p9 with ⟨hx9, e9⟩ | ⟨c9, t9, hx9, e9⟩) <;> (clear p9; subst e9; (try dsimp only); (try k_fold)))))
local macro_rules | `(tactic| ktd_sub) => `(tactic| (intro p hp; repeat (first | exact hp | refine List.mem_cons_of_mem _ ?_ | refine List.mem_append_right _ ?_)))
set_option maxRecDepth 100000 in
set_option maxHeartbeats 8000000 in
theorem cmp_con9 (w : World) (mean : ExcName → Option Value) (mg mb : Str → Option Value) {news : List (Addr × Obj)} {v v' : Value} {d d' : Tree} (R : NodeIn news v d) (R' : NodeIn news v' d') :
    ConV w mean mg mb 323 [v, v'] (d.size + d'.size + 20) news (fun r => ∃ t, r = .str (cmpColl d d').low t) := by
  w_on
  intro dp un gd cn cs a ccd cl outer A₀ base h₀ L m s Q E B F X N T hk hd hu hret
  refine wpAny_call ?_
  k_dflt ktr_enter
  k_steps
  all_goals first
    | exact endV hret (by k_asm) (by k_asm) (by ktd_sub) (cmp_a (by assumption))
    | exact endV hret (by k_asm) (by k_asm) (by ktd_sub) (cmp_b (by assumption) (by assumption))
    | exact endV hret (by k_asm) (by k_asm) (by ktd_sub) (cmp_c (by assumption) (by assumption) (by assumption))
    | exact endV hret (by k_asm) (by k_asm) (by ktd_sub) (cmp_d (by assumption) (by assumption) (by assumption) (by assumption))
    | exact endV hret (by k_asm) (by k_asm) (by ktd_sub) (cmp_e (by assumption) (by assumption) (by assumption) (by assumption))
end

-- part Glue
section
theorem drawn_con (w : World) (mean : ExcName → Option Value) (mg mb : Str → Option Value) (n : Nat) : KidD w mean mg mb n := by
  induction n with
  | zero => exact drawn_zero w mean mg mb
  | succ n ih => exact drawn_succ w mean mg mb n ih
theorem collof_con (w : World) (mean : ExcName → Option Value) (mg mb : Str → Option Value) {news : List (Addr × Obj)} {v : Value} {d : Tree} (R : NodeIn news v d) :
    ConV w mean mg mb 316 [v] (d.size + 20) news (fun r => ∃ t, r = .str d.coll.low t) := collof_con9 w mean mg mb R
theorem cmp_con (w : World) (mean : ExcName → Option Value) (mg mb : Str → Option Value) {news : List (Addr × Obj)} {v v' : Value} {d d' : Tree} (R : NodeIn news v d) (R' : NodeIn news v' d') :
    ConV w mean mg mb 323 [v, v'] (d.size + d'.size + 20) news (fun r => ∃ t, r = .str (cmpColl d d').low t) := cmp_con9 w mean mg mb R R'
end

-- part Lw
section
local macro_rules | `(tactic| walk_at "idle0") => `(tactic| skip)
local macro_rules | `(tactic| walk_at "idle1") => `(tactic| skip)
theorem useN {w : World} {mean : ExcName → Option Value} {mg mb : Str → Option Value} {f : Addr} {vs : List Value} {need : Nat} {news : List (Addr × Obj)} {d : Tree} {dp un : Nat} {gd : Option (List Code)} {cn : Str} {cs : Scope} {a : Addr} {ccd : Value} {cl : List (Str × Addr)} {outer : List Env} {A₀ : Around} {base h₀ : Heap} {L : Addr} {m : Str → Option Value} {s : Shared}
    {Q E : Value → Shared → Prop} (B : Below A₀ base outer h₀) (F : Fr h₀ L s.heap m) (X : (kt9.heap_1 w.params).In h₀) (N : News h₀ L s.heap news) (T : Top vw (looseW vw [Str.ofString "affinity_of", Str.ofString "collation_of"]) mean mg mb h₀) (hk : cs.kind = .function)
    (C : ConN w mean mg mb f vs need news d) (hd : dp + need < recursionLimit) (hu : un + 8 * need < cLine)
    (ret : ∀ r tl h' tk', Fr h₀ L h' m → News h₀ L h' (tl ++ news) → NodeIn (tl ++ news) r d → Q r { s with heap := h', toks := tk' }) :
    wpAny (model PySem.Challenge.rw_nt0097_01.row.prog w) (ktrTop dp un gd cn cs L a ccd cl outer) (call (.ref f) vs) Q E s :=
  C _ _ _ _ _ _ _ _ _ _ _ _ _ _ _ _ _ B F X N T hk hd hu fun r news' h' tk' F' N' p => by
    obtain ⟨tl, rfl, p⟩ := p
    exact ret r tl h' tk' F' N' p
local macro_rules | `(tactic| k_mem) => `(tactic| first | exact List.Mem.head _ | ktr_member | (refine List.mem_cons_of_mem _ ?_; k_mem) | (refine List.mem_append_right _ ?_; k_mem))
local macro_rules | `(tactic| walk_at "ite") => `(tactic| (k_closed; k_dflt (first | (refine' ite_pos ?zi1 ?_; (case zi1 => decide +kernel)) | (refine' ite_neg ?zi2 ?_; (case zi2 => decide +kernel)))))
local macro_rules | `(tactic| walk_at "pyIter ref") => `(tactic| (
  (with_reducible show wpAny _ _ (pyIter (Value.ref _)) (fun it s₂ => LoopAtV _ _ _ _ _ _ _ _ _ it s₂) _ _)
  k_here
  (rename Fr _ _ _ _ => lF'); (rename News _ _ _ _ => lN'); (rename IsRange _ _ _ _ _ _ _ _ => rgX)
  (with_unfolding_all refine kow_range [Str.ofString "source", Str.ofString "one", Str.ofString "other", Str.ofString "left", Str.ofString "right", Str.ofString "tree", Str.ofString "node", Str.ofString "due"] (by rfl) (by first | exact rgX | assumption) (by exact small_one (by omega) (by omega) (by omega) (by omega)) (by exact rangeSize_nat _ _) lF' lN' (fun n' t' u' h' tk' I' oI' hlo' hhi' F' N' l1' => ?_) (fun u' h' tk' F' N' => ?_)) <;> ((try k_lt l1'); clear lF' lN')))
section
variable {prog : Program} {w : World} {A : Around} {E : Value → Shared → Prop} {s : Shared}
theorem ne_same {x : Str} {t u : Tok} {Q : Value → Shared → Prop} (h : Q (.bool false) s) : wpAny (model prog w) A (compareOp .NotEq (.str x t) (.str x u)) Q E s :=
  P.ne_str (by rw [show (x.cps.toList != x.cps.toList) = false from by simp]; exact h)
theorem ne_optS {o : Option Str} {t u : Tok} {Q : Value → Shared → Prop} (h : Q (.bool false) s) : wpAny (model prog w) A (compareOp .NotEq (optS t o) (optS u o)) Q E s := by
  cases o with
  | none => exact EqNone.ne_none_none h
  | some x => exact ne_same h
variable {h₀ : Heap} {L : Addr} {news : List (Addr × Obj)}
theorem item_first {value slice : PySem.Expr} {l : Addr} {us : List Value} {n : Nat} {u : Tok} {x : Str} {Q : Value → Shared → Prop} (N : News h₀ L s.heap news) (hm : (l, W.listOf us.toArray n) ∈ news) (hx : ∃ t, us[0]? = some (.str x t)) (h : ∀ t, Q (.str x t) s)
    (hs : subscripted slice false (.ref l) (.int 0 u) = operate [.ref l, .int 0 u] (getItem (.ref l) (.int 0 u)) := by with_unfolding_all rfl) :
    wpAny (model prog w) A (subscriptTail value slice (.ref l) (.int 0 u)) Q E s := by
  obtain ⟨t, hx⟩ := hx
  have hl : s.heap.IsList l us.toArray := ⟨_, (N _ hm).1, rfl, _, rfl⟩
  exact tail_any hl.typeIs slot_list_getitem.lookup (getItem_listL hl (by decide) (by decide) (by simpa using hx) (h t)) hs
end
theorem first_coll {d : Tree} {us vs : List Value} {t : Tok} (h : ToldVs d us) (h' : ColVs d vs) : ∃ t', (us ++ vs ++ [.str (Str.ofString "binary") t])[0]? = some (.str d.coll.low t') := by
  have h1 := h.2
  have h2 := h'.2
  unfold Tree.coll
  cases he : d.expl with
  | some c =>
    rw [he] at h1
    obtain ⟨t', r, rfl⟩ := h1
    exact ⟨t', rfl⟩
  | none =>
    rw [he] at h1
    subst h1
    cases hc : d.ccol with
    | some c =>
      rw [hc] at h2
      obtain ⟨t', r, rfl⟩ := h2
      exact ⟨t', rfl⟩
    | none =>
      rw [hc] at h2
      subst h2
      exact ⟨t, rfl⟩
theorem first_cmp {d e : Tree} {us vs xs ys : List Value} {t : Tok} (h : ToldVs d us) (g : ToldVs e vs) (h' : ColVs d xs) (g' : ColVs e ys) : ∃ t', (us ++ vs ++ xs ++ ys ++ [.str (Str.ofString "binary") t])[0]? = some (.str (cmpColl d e).low t') := by
  have h1 := h.2
  have h2 := g.2
  have h3 := h'.2
  have h4 := g'.2
  unfold cmpColl
  cases he : d.expl with
  | some c =>
    rw [he] at h1
    obtain ⟨t', r, rfl⟩ := h1
    exact ⟨t', rfl⟩
  | none =>
    rw [he] at h1
    subst h1
    cases hf : e.expl with
    | some c =>
      rw [hf] at h2
      obtain ⟨t', r, rfl⟩ := h2
      exact ⟨t', rfl⟩
    | none =>
      rw [hf] at h2
      subst h2
      cases hc : d.ccol with
      | some c =>
        rw [hc] at h3
        obtain ⟨t', r, rfl⟩ := h3
        exact ⟨t', rfl⟩
      | none =>
        rw [hc] at h3
        subst h3
        cases hg : e.ccol with
        | some c =>
          rw [hg] at h4
          obtain ⟨t', r, rfl⟩ := h4
          exact ⟨t', rfl⟩
        | none =>
          rw [hg] at h4
          subst h4
          exact ⟨t, rfl⟩
local macro_rules | `(tactic| walk_at "compareOp NotEq") => `(tactic| (k_here; (refine' ne_optS ?_)))
local macro_rules | `(tactic| walk_at "compareOp NotEq str str") => `(tactic| (k_here; (refine' ne_same ?_)))
local macro_rules | `(tactic| walk_at "binaryOp Add ref ref") => `(tactic| (k_here; (with_reducible show wpAny _ _ (binaryOp _ (Value.ref _) (Value.ref _)) _ _ _); k_dflt (refine' add_L ?zF1 ?zN1 ?zm1 ?zm2 ?_ ?zz1; (case zF1 => k_asm); (case zN1 => k_asm); (case zm1 => k_mem); (case zm2 => k_mem); (case zz1 => (simp only [sizeLine_eq, List.length_append, List.length_cons, List.length_nil]; omega))); intro D' h' F' N'))
local macro_rules | `(tactic| walk_at "subscriptTail BinOp BinOp") => `(tactic| (k_here; (with_reducible show wpAny _ _ (subscriptTail _ _ (Value.ref _) (Value.int _ _)) _ _ _); k_dflt (refine' item_first ?k1 ?k2 ?k3 ?_ ?k6; (case k1 => k_asm); (case k2 => k_mem); (case k3 => first | exact first_coll (by assumption) (by assumption) | exact first_cmp (by assumption) (by assumption) (by assumption) (by assumption)); (case k6 => with_unfolding_all rfl); k_whole); intro t9))
/-- a ledger's part behind an entry -/
inductive Suf (p : Addr × Obj) : List (Addr × Obj) → List (Addr × Obj) → Prop
  | head {r} : Suf p (p :: r) r
  | tail {q r r'} : Suf p r r' → Suf p (q :: r) r'
theorem Suf.sub {p : Addr × Obj} {l r : List (Addr × Obj)} (f : Suf p l r) : ∀ q ∈ p :: r, q ∈ l := by
  induction f with
  | head => exact fun _ h => h
  | tail _ ih => exact fun q h => List.mem_cons_of_mem _ (ih q h)
theorem endWLw {h₀ : Heap} {L I : Addr} {it : Obj} {keep : List (Addr × Obj)} {rest : (Str → Option Value) → List (Addr × Obj) → Prop} {s₁ : Shared} {h' : Heap} {tk : Nat} {m' : Str → Option Value} {all news' : List (Addr × Obj)} (F : Fr h₀ L h' m') (N : News h₀ L h' all)
    (suf : Suf (I, it) all news') (off : ∀ p ∈ news', p.1 < I) (hk : SubL keep news') (r : rest m' news') : UnrEndW h₀ L s₁ [(I, it)] (fun m' n' => SubL keep n' ∧ rest m' n') { s₁ with heap := h', toks := tk } :=
  ⟨h', tk, m', news', rfl, F, fun p hp => N p (suf.sub p hp), fun p hp q hq => by rw [List.mem_singleton.mp hq]; exact Nat.ne_of_lt (off p hp), hk, r⟩
local macro_rules | `(tactic| walk_at "UnrEndW") => `(tactic| (refine endWLw (by assumption) (by assumption) (by (repeat (first | exact Suf.head | apply Suf.tail))) (by assumption) (by k_subL) ?_))
local macro_rules | `(tactic| walk_at "pyIter ref") => `(tactic| (k_here; (with_reducible show wpAny _ _ (pyIter (Value.ref _)) (fun it s₂ => TurnsAt _ _ _ _ _ _ _ _ _ it s₂) _ _); (rename Fr _ _ _ _ => lF'); (with_unfolding_all refine iter_listTurns (by rfl) lF' (by assumption) (by k_mem) (by rfl) (by rfl) ?_); clear lF'; intro i' l1))
local macro_rules | `(tactic| ktd_sub) => `(tactic| (intro p hp; repeat (first | exact hp | refine List.mem_cons_of_mem _ ?_ | refine List.mem_append_right _ ?_)))
local macro_rules | `(tactic| k_all) => `(tactic| first | assumption | (refine' List.forall_mem_cons.mpr ⟨?zka, ?zkb⟩; (case zka => k_ne); (case zkb => k_all)))
-- the pool
local macro_rules | `(tactic| walk_at "call ref") => `(tactic| (k_here; k_dflt (refine' pool_con _ _ _ _ _ _ _ _ _ _ ?kk ?ki ?kn _ _ _ _ _ _ _ _ _ _ _ _ _ _ _ _ _ ?k1 ?k2 ?k3 ?k4 ?k5 ?kK ?kd ?ku ?kl ?_; (case k1 => k_asm); (case k2 => k_asm); (case k3 => k_asm); (case k4 => k_asm); (case k5 => k_asm); (case kl => assumption); (case ki => assumption); (case kn => omega); (case kk => exact ⟨by omega, by omega⟩); (case kK => first | exact rfl | assumption); (case kd => ktr_room); (case ku => ktr_units); k_whole; intro x9 a9 b9 t9 u9 n9 h9 tk9 F9 N9 hab9 hoff9; (try dsimp only); (try k_fold))))
-- calls that hand back a value
local macro_rules | `(tactic| walk_at "call ref") => `(tactic| (k_here; k_dflt (refine' useV ?k1 ?k2 ?k3 ?k4 ?k5 ?kK ?kC ?kd ?ku ?_; (case k1 => k_asm); (case k2 => k_asm); (case k3 => k_asm); (case k4 => k_asm); (case k5 => k_asm); (case kK => first | exact rfl | assumption); (case kC => first | exact aff1_con _ _ _ _ (NodeIn.mono (by assumption) (by ktd_sub)) | exact laff_con _ _ _ _ (TreeIn.mono (by assumption) (by ktd_sub)) | exact collof_con _ _ _ _ (NodeIn.mono (by assumption) (by ktd_sub)) | exact cmp_con _ _ _ _ (NodeIn.mono (by assumption) (by ktd_sub)) (NodeIn.mono (by assumption) (by ktd_sub))); (case kd => ktr_room); (case ku => ktr_units); k_whole; intro r9 h9 tk9 F9 N9 p9; (obtain ⟨t9, p9⟩ := p9); (subst p9); (try dsimp only); (try k_fold))))
-- calls that make a list
local macro_rules | `(tactic| walk_at "call ref") => `(tactic| (k_here; k_dflt (refine' useL ?k1 ?k2 ?k3 ?k4 ?k5 ?kK ?kC ?kd ?ku ?_; (case k1 => k_asm); (case k2 => k_asm); (case k3 => k_asm); (case k4 => k_asm); (case k5 => k_asm); (case kK => first | exact rfl | assumption); (case kC => first | exact told_con _ _ _ _ _ _ _ (TreeIn.mono (by assumption) (by ktd_sub)) | exact lcol_con _ _ _ _ (TreeIn.mono (by assumption) (by ktd_sub))); (case kd => ktr_room); (case ku => ktr_units); k_whole; intro r9 us9 n9 h9 tk9 F9 N9 p9; (have q9 := p9.1); (try dsimp only); (try k_fold))))
-- a node
local macro_rules | `(tactic| walk_at "call ref") => `(tactic| (k_here; k_dflt (refine' useN ?k1 ?k2 ?k3 ?k4 ?k5 ?kK ?kC ?kd ?ku ?_; (case k1 => k_asm); (case k2 => k_asm); (case k3 => k_asm); (case k4 => k_asm); (case k5 => k_asm); (case kK => first | exact rfl | assumption); (case kC => exact node_con _ _ _ _ _ _ _ (TreeIn.mono (by assumption) (by ktd_sub))); (case kd => ktr_room); (case ku => ktr_units); k_whole; intro r9 tl9 h9 tk9 F9 N9 R9; (try dsimp only); (try k_fold))))
-- a drawn tree
local macro_rules | `(tactic| walk_at "call ref") => `(tactic| (k_here; k_dflt (refine' useKidD (n := 2) ?k1 ?k2 ?k3 ?k4 ?k5 ?kK ?kC ?kf ?kn ?ka ?kh ?kd ?ku ?_; (case kh => decide); (case k1 => k_asm); (case k2 => k_asm); (case k3 => k_asm); (case k4 => k_asm); (case k5 => k_asm); (case kK => first | exact rfl | assumption); (case kC => exact drawn_con _ _ _ _ _); (case kf => (repeat (first | exact Front.head | apply Front.tail))); (case kn => k_all); (case ka => assumption); (case kd => ktr_room); (case ku => ktr_units); k_whole; intro r9 d9 a9 b9 u9 v9 n9 tl9 h9 tk9 F9 N9 hab9 hoff9 R9 hs9; (replace hs9 : d9.size < 8 := hs9); (try dsimp only); (try k_fold))))
local macro_rules | `(tactic| walk_at "call ref") => `(tactic| (k_here; k_dflt (refine' useKidD (n := 3) ?k1 ?k2 ?k3 ?k4 ?k5 ?kK ?kC ?kf ?kn ?ka ?kh ?kd ?ku ?_; (case kh => decide); (case k1 => k_asm); (case k2 => k_asm); (case k3 => k_asm); (case k4 => k_asm); (case k5 => k_asm); (case kK => first | exact rfl | assumption); (case kC => exact drawn_con _ _ _ _ _); (case kf => (repeat (first | exact Front.head | apply Front.tail))); (case kn => k_all); (case ka => assumption); (case kd => ktr_room); (case ku => ktr_units); k_whole; intro r9 d9 a9 b9 u9 v9 n9 tl9 h9 tk9 F9 N9 hab9 hoff9 R9 hs9; (replace hs9 : d9.size < 16 := hs9); (try dsimp only); (try k_fold))))
-- the kernel's own look at the names, in place of the twin's (a twin of the whole program would be laid)
local macro_rules | `(tactic| k_qdec) => `(tactic| decide +kernel)
-- the addresses of the written part's objects, in their order
noncomputable abbrev as9 : List Addr := [2, 3, 15, 17, 18, 20, 21, 22, 25, 26, 34, 36, 37, 39, 40, 41, 42, 43, 44, 45, 48, 55, 56, 57, 60, 67, 69, 70, 72, 73, 74, 76, 77, 79, 80, 81, 82, 83, 86, 93, 95, 96, 98, 99, 100, 102, 103, 105, 106, 107, 108, 109, 112, 119, 121, 122, 124, 125, 126, 128, 129, 131, 132, 133, 134, 135, 138, 145, 147, 148, 150, 151, 152, 154, 155, 157, 158, 159, 160, 161, 164, 171, 173, 174, 176, 177, 178, 180, 181, 183, 184, 185, 186, 187, 190, 197, 199, 200, 202, 203, 204, 206, 207, 209, 210, 211, 212, 213, 216, 223, 225, 226, 228, 229, 230, 232, 233, 235, 236, 237, 238, 239, 242, 249, 251, 252, 254, 255, 256, 258, 259, 261, 262, 263, 264, 265, 268, 270, 271, 273, 274, 275, 277, 278, 280, 281, 282, 285, 286, 287, 288, 290, 291, 293, 294, 295, 297, 298, 300, 301, 302, 304, 305, 307, 308, 309, 310, 312, 313, 315, 316, 317, 319, 320, 322, 323, 324, 326, 327, 329, 330, 331, 333, 334, 336, 337, 338, 340, 341, 343, 344, 345, 347, 348, 350, 351, 352, 354, 355, 357, 358, 359, 361, 362, 364, 365, 366, 368, 369, 371, 372, 373, 375, 376, 378, 379]
set_option maxRecDepth 100000 in
set_option maxHeartbeats 8000000 in
theorem law9 : ∃ d kwd, defOf vw (Str.ofString "law") = some (d, kwd) ∧ WalkO vw [Str.ofString "affinity_of", Str.ofString "collation_of"] (XL vw []) (kHook kt9.heap_1 as9 (fun _ => by kernel_rfl)).says PySem.Challenge.rw_nt0097_01.row.toRowW d kwd (fun f vs => PySem.call f vs) := by
  refine ⟨_, _, by rfl, ?_⟩
  k_go0
  (all_goals try k_fold)
  k_steps
end

-- the head
theorem walk_of {q q' : Program} {n : Str} {loose : List Str} {Y : World → Heap → Prop} {r : RowW} {d d' : DefRec} {k k' : List (Str × PySem.Expr)} {run : Value → List Value → Sem Value} (e : q' = q) (h : defOf q n = some (d, k)) (h' : defOf q' n = some (d', k'))
    (W : WalkO q loose (XL q []) Y r d k run) : WalkO q' loose (XL q' []) Y r d' k' run := by
  subst e
  rw [h] at h'
  cases h'
  exact W
-- The head writes a twin of each constant that it lays (its states, statements, objects), with an equation whose size is the square of the number of constants inside; the kernel needs none of them here.
-- Where a twin's name is taken, none is made: the rows below take the names of the largest (Tw.lean prints them), and the compiled file stays small.
theorem hd.tw16363958261687757724 : True := trivial
theorem hd.tw2493985911018215709 : True := trivial
theorem hd.tw3578793298874791812 : True := trivial
theorem hd.tw11254508552101053245 : True := trivial
theorem hd.tw7679452656841897225 : True := trivial
theorem hd.tw15072355351016879873 : True := trivial
theorem hd.tw3039998526598829958 : True := trivial
theorem hd.tw15492977051215013132 : True := trivial
theorem hd.tw2287590429203783052 : True := trivial
theorem hd.tw14384831891827904934 : True := trivial
theorem hd.tw9105148058423970377 : True := trivial
theorem hd.tw8247946778945825095 : True := trivial
theorem hd.tw9724358948501437256 : True := trivial
theorem hd.tw2483235414948986876 : True := trivial
theorem hd.tw14896477498954680388 : True := trivial
theorem hd.tw1882180444382439491 : True := trivial
theorem hd.tw8068729725432388964 : True := trivial
theorem hd.tw14400467628812073631 : True := trivial
theorem hd.tw14294001040229213422 : True := trivial
theorem hd.tw9763420282994701918 : True := trivial
theorem hd.tw17689719872356567411 : True := trivial
theorem hd.tw6425095136778912423 : True := trivial
theorem hd.tw14708807125848044605 : True := trivial
theorem hd.tw6038821095411175016 : True := trivial
theorem hd.tw10024716035694756283 : True := trivial
theorem hd.tw13609717118414637909 : True := trivial
theorem hd.tw8764295480008022083 : True := trivial
theorem hd.tw1847840615245081061 : True := trivial
theorem hd.tw2323474266016966308 : True := trivial
theorem hd.tw10879034167726328663 : True := trivial
theorem hd.tw9427301549700849589 : True := trivial
theorem hd.tw12629568148972539762 : True := trivial
theorem hd.tw9449090799628755676 : True := trivial
theorem hd.tw9345929723534960622 : True := trivial
theorem hd.tw9641152695372364146 : True := trivial
theorem hd.tw14478148883734587675 : True := trivial
theorem hd.tw9741134391959003819 : True := trivial
theorem hd.tw6164396464334811476 : True := trivial
theorem hd.tw5732804406350252772 : True := trivial
theorem hd.tw8770205317985620760 : True := trivial
theorem hd.tw16345102440705955213 : True := trivial
theorem hd.tw18302498484699191785 : True := trivial
theorem hd.tw2167537188350426706 : True := trivial
theorem hd.tw13903934854276604550 : True := trivial
theorem hd.tw212345690472687942 : True := trivial
theorem hd.tw2327210489368252092 : True := trivial
theorem hd.tw17950676927832955104 : True := trivial
theorem hd.tw5373601922739893978 : True := trivial
theorem hd.tw18185175575083235020 : True := trivial
theorem hd.tw2886944701177904103 : True := trivial
theorem hd.tw7068711184596962023 : True := trivial
theorem hd.tw8879563391730754479 : True := trivial
theorem hd.tw17672654358674132775 : True := trivial
theorem hd.tw14960593345356199642 : True := trivial
theorem hd.tw13277076834127875243 : True := trivial
theorem hd.tw7754304195085646258 : True := trivial
theorem hd.tw13855881374063213867 : True := trivial
theorem hd.tw14168552714766633299 : True := trivial
theorem hd.tw7763873220885509757 : True := trivial
theorem hd.tw344324432246765382 : True := trivial
theorem hd.tw16920754564084929960 : True := trivial
theorem hd.tw5781342201191254626 : True := trivial
theorem hd.tw13217225542625558698 : True := trivial
theorem hd.tw17042694160793651959 : True := trivial
theorem hd.tw18060909499035610645 : True := trivial
theorem hd.tw2442259710966052079 : True := trivial
theorem hd.tw16722109127936396110 : True := trivial
theorem hd.tw13409441903868389331 : True := trivial
theorem hd.tw13518370688599389936 : True := trivial
theorem hd.tw5282504435634884242 : True := trivial
theorem hd.tw6931407450589930559 : True := trivial
theorem hd.tw3451239065008710300 : True := trivial
theorem hd.tw9170477692918782315 : True := trivial
theorem hd.tw10424393626065333798 : True := trivial
theorem hd.tw14892549342360969540 : True := trivial
theorem hd.tw13828106393651249627 : True := trivial
theorem hd.tw10966634903824617133 : True := trivial
theorem hd.tw7085514621470718492 : True := trivial
theorem hd.tw12092154237167983948 : True := trivial
theorem hd.tw17062030032774818151 : True := trivial
theorem hd.tw2274498078352570744 : True := trivial
theorem hd.tw17986969038992634876 : True := trivial
theorem hd.tw307737655149646647 : True := trivial
theorem hd.tw17258206423299326598 : True := trivial
theorem hd.tw13431754692932380062 : True := trivial
theorem hd.tw10949625832625181284 : True := trivial
theorem hd.tw16640546478005224243 : True := trivial
theorem hd.tw6528754448969337418 : True := trivial
theorem hd.tw17177331786930743035 : True := trivial
theorem hd.tw8117029840178788049 : True := trivial
theorem hd.tw11128854368766332075 : True := trivial
theorem hd.tw10601615944963115059 : True := trivial
theorem hd.tw4706079058837389440 : True := trivial
theorem hd.tw8789358453043137523 : True := trivial
theorem hd.tw1506431575118746342 : True := trivial
theorem hd.tw4870687313549177768 : True := trivial
theorem hd.tw9421340871869096474 : True := trivial
theorem hd.tw11893437276241958245 : True := trivial
theorem hd.tw12588582704262371052 : True := trivial
theorem hd.tw8457440626546761165 : True := trivial
theorem hd.tw15833661619300960221 : True := trivial
theorem hd.tw16412773359747925120 : True := trivial
theorem hd.tw17893044597097874663 : True := trivial
theorem hd.tw7120233287515763914 : True := trivial
theorem hd.tw9557236495431379559 : True := trivial
theorem hd.tw15166520500009309586 : True := trivial
theorem hd.tw9499510787657705874 : True := trivial
theorem hd.tw22551697357593593 : True := trivial
theorem hd.tw15411387601460861337 : True := trivial
theorem hd.tw11086760286371293498 : True := trivial
set_option Elab.async true in
set_option maxRecDepth 100000 in
set_option maxHeartbeats 8000000 in
theorem hd : PySem.Challenge.rw_nt0097_01.Holds := by
  w_on; o_law
  o_head (kHook kt9.heap_1 as9 (fun _ => by kernel_rfl))
  (case hw => w_witness2)
  obtain ⟨d, kwd, e, h⟩ := law9
  exact walk_of (by kernel_rfl) e (by kernel_rfl) h
end Mine

set_option maxRecDepth 100000 in
set_option maxHeartbeats 8000000 in
theorem PySem.Challenge.cw_nt0097_01_holds : PySem.Challenge.rw_nt0097_01.Holds := by
  exact Mine.hd
