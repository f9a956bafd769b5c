import PyProof.Rows.All
import Wide.All
import OpenK.AllK
import Wide.FinOn
import Lean
import PySem.Challenge.RW_tk0109_01
set_option Elab.async false
set_option maxRecDepth 100000
set_option maxHeartbeats 8000000
section
open PySem PySem.W PyProof.Rows
namespace Mine

abbrev tup (vs : Array Value) : Obj := { cls := .type "tuple", data := .seq vs }
abbrev lst (vs : Array Value) (n : Nat) : Obj := PySem.W.listOf vs n
abbrev Led := List (Addr × Obj)
abbrev SStr := PySem.Str
abbrev S (x : String) : PySem.Str := PySem.Str.ofString x

abbrev LClaim (KK : PySem.Params → Frag) (qq : Program) (rm : Nat) (w : World) (mean : ExcName → Option Value) (mg mb : SStr → Option Value) (f : Addr) (news : Led) (vs : List Value) (R : Value → Led → Prop) : Prop :=
  ∀ (dp un : Nat) (gd : Option (List Code)) (cn : SStr) (cs : Scope) (a : Addr) (ccd : Value) (cl : List (SStr × Addr)) (outer : List Env) (A₀ : Around) (base h₀ : Heap) (L : Addr) (m : SStr → Option Value) (s : Shared) (Q E : Value → Shared → Prop),
    Below A₀ base outer h₀ → Fr h₀ L s.heap m → (KK w.params).In h₀ → News h₀ L s.heap news → Top qq (looseW qq [S "SnobolError", S "plain_count"]) mean mg mb h₀ → cs.kind = .function →
    dp + rm < recursionLimit → un + 10 * rm < cLine → 
    (∀ (r : Value) (news' : Led) (h' : Heap) (tk' : Nat), R r news' → Fr h₀ L h' m → News h₀ L h' news' → Q r { s with heap := h', toks := tk' }) →
      wpAny (model PySem.Challenge.rw_tk0109_01.row.prog w) (ktrTop dp un gd cn cs L a ccd cl outer) (call (.ref f) vs) Q E s

theorem notin_topT {prog : Program} {w : World} {A : Around} {E : Value → Shared → Prop} {s : Shared} {K : Frag} {h₀ : Heap} {L a : Addr} {m : SStr → Option Value} {n : Nat} {l : List Value} {dd : Option Addr} {sl : Array (Option Value)} {ys : List SStr} {x : SStr} {u : Tok} {Q : Value → Shared → Prop} (F : Fr h₀ L s.heap m) (X₀ : K.In h₀)
    (hl : K.lookup a = some ⟨.type "tuple", dd, .seq l.toArray n, sl⟩) (hi : StrsAre l ys) (h : Q (.bool (!(ys.any (· == x)))) s) : wpAny (model prog w) A (compareOp .NotIn (.str x u) (.ref a)) Q E s :=
  notin_tuple_strs (tupK (X₀.keeps F.keep) hl) (by simpa using hi) h

abbrev ent (w : World) (k : String) (t : Tok) (v : Value) : DictEntry := { hash := PyData.keyHash w.params (PySem.Str.ofString k), key := Value.str (PySem.Str.ofString k) t, val := v }
abbrev hostD (w : World) (vx rl lg : Addr) (a b c d e f g h : Tok) (k : Int) (ks : Tok) : Obj :=
  dictOf [ent w "values" a (.ref vx), ent w "limit" b (.int 9999 c), ent w "refused" d (.ref rl), ent w "width" e (.int 64 f), ent w "steps" g (.int k ks), ent w "log" h (.ref lg)] 6
abbrev refD (w : World) (a b c d e : Tok) : Obj :=
  dictOf [ent w "kind" a (.str (S "var") b), ent w "owner" c .none, ent w "key" d (.str (S "V") e)] 3
abbrev PG : Program := PySem.Challenge.rw_tk0109_01.row.prog
abbrev SD (w : World) (o : Obj) (kvs : List (SStr × Value)) : Prop := Obj.IsDictOf (PySem.strKind PG w) o kvs
def Sub (l n : Led) : Prop := ∀ p ∈ l, p ∈ n
theorem sub_refl {l : Led} : Sub l l := fun _ h => h
theorem sub_cons {q : Addr × Obj} {l n : Led} (h : q ∈ n) (k : Sub l n) : Sub (q :: l) n := fun p hp => (List.mem_cons.mp hp).elim (fun e => e ▸ h) (k p)
theorem sub_tail {q : Addr × Obj} {l n : Led} (k : Sub l n) : Sub l (q :: n) := fun p hp => .tail _ (k p hp)
theorem mem_head {α : Type} {a : α} {l : List α} : a ∈ a :: l := .head _
theorem mem_tail {α : Type} {a b : α} {l : List α} (h : a ∈ l) : a ∈ b :: l := .tail _ h
theorem sub_nil {n : Led} : Sub [] n := fun _ h => nomatch h
abbrev Ab (lp e1 e2 e3 d : Nat) : Prop := lp < d ∧ e1 < d ∧ e2 < d ∧ e3 < d
end Mine
end
section
open PySem PySem.W PyProof.Rows
namespace Mine
def adv_alt_C (KK : PySem.Params → Frag) (qq : Program) : Prop := ∀ (w : World) (mean : ExcName → Option Value) (mg mb : SStr → Option Value) (c t lp e1 e2 e3 : Addr) (o1 o2 o3 : Obj) (xv yv sv av : Value) (k : Tok) (its : Array Value) (ep : Nat) (rv nv hv : Value) (rest : Led)    (h1 : c ≠ lp) (h2 : t ≠ lp) (n1 : e1 ≠ lp) (n2 : e2 ≠ lp) (n3 : e3 ≠ lp) (h3 : ∀ p ∈ rest, p.1 ≠ lp) (hsz : its.size ≤ sizeLine),
   LClaim KK qq 20 w mean mg mb 411 ((lp, lst its ep) :: (e1, o1) :: (e2, o2) :: (e3, o3) :: (c, tup #[.ref t, rv]) :: (t, tup #[.str (S "alt") k, xv, yv]) :: rest) [.ref c, av, nv, sv, .ref lp, hv]
     (fun r news' => ∃ d0 d1 d2 d3 j1 x1, r = .ref d0 ∧ news' = (d0, tup #[.ref d1, av, nv]) :: (d1, tup #[xv, rv]) :: (d2, tup #[.ref d3, av, nv]) :: (d3, tup #[yv, rv]) :: (j1, x1) :: (lp, lst (its.push (.ref d2)) (ep + 1)) :: (e1, o1) :: (e2, o2) :: (e3, o3) :: (c, tup #[.ref t, rv]) :: (t, tup #[.str (S "alt") k, xv, yv]) :: rest ∧ Ab lp e1 e2 e3 d0 ∧ Ab lp e1 e2 e3 d1 ∧ Ab lp e1 e2 e3 d2 ∧ Ab lp e1 e2 e3 d3)
def adv_cat_C (KK : PySem.Params → Frag) (qq : Program) : Prop := ∀ (w : World) (mean : ExcName → Option Value) (mg mb : SStr → Option Value) (c t lp e1 e2 e3 : Addr) (o0 o1 o2 o3 : Obj) (xv yv sv av : Value) (k : Tok) (rv nv hv : Value) (rest : Led)    ,
   LClaim KK qq 20 w mean mg mb 411 ((lp, o0) :: (e1, o1) :: (e2, o2) :: (e3, o3) :: (c, tup #[.ref t, rv]) :: (t, tup #[.str (S "cat") k, xv, yv]) :: rest) [.ref c, av, nv, sv, .ref lp, hv]
     (fun r news' => ∃ d0 d1 d2 j1 x1, r = .ref d0 ∧ news' = (d0, tup #[.ref d1, av, nv]) :: (d1, tup #[xv, .ref d2]) :: (d2, tup #[yv, rv]) :: (j1, x1) :: (lp, o0) :: (e1, o1) :: (e2, o2) :: (e3, o3) :: (c, tup #[.ref t, rv]) :: (t, tup #[.str (S "cat") k, xv, yv]) :: rest ∧ Ab lp e1 e2 e3 d0 ∧ Ab lp e1 e2 e3 d1 ∧ Ab lp e1 e2 e3 d2)
def adv_now_C (KK : PySem.Params → Frag) (qq : Program) : Prop := ∀ (w : World) (mean : ExcName → Option Value) (mg mb : SStr → Option Value) (c t lp e1 e2 e3 : Addr) (o0 o1 o2 o3 : Obj) (xv yv sv av : Value) (k : Tok) (rv nv hv : Value) (rest : Led)    ,
   LClaim KK qq 20 w mean mg mb 411 ((lp, o0) :: (e1, o1) :: (e2, o2) :: (e3, o3) :: (c, tup #[.ref t, rv]) :: (t, tup #[.str (S "now") k, xv, yv]) :: rest) [.ref c, av, nv, sv, .ref lp, hv]
     (fun r news' => ∃ d0 d1 d2 d3 k' j1 x1, r = .ref d0 ∧ news' = (d0, tup #[.ref d1, av, nv]) :: (d1, tup #[xv, .ref d2]) :: (d2, tup #[.ref d3, rv]) :: (d3, tup #[.str (S "end now") k', yv, av]) :: (j1, x1) :: (lp, o0) :: (e1, o1) :: (e2, o2) :: (e3, o3) :: (c, tup #[.ref t, rv]) :: (t, tup #[.str (S "now") k, xv, yv]) :: rest ∧ Ab lp e1 e2 e3 d0 ∧ Ab lp e1 e2 e3 d1 ∧ Ab lp e1 e2 e3 d2 ∧ Ab lp e1 e2 e3 d3)
def adv_chars_C (KK : PySem.Params → Frag) (qq : Program) : Prop := ∀ (w : World) (mean : ExcName → Option Value) (mg mb : SStr → Option Value) (c t lp e1 e2 e3 : Addr) (o0 o1 o2 o3 : Obj) (k k' ts ta : Tok) (text subj : SStr) (i : Int) (rv nv hv : Value) (rest : Led)    (hi : 0 ≤ i ∧ i ≤ 100) (hl1 : text.length ≤ 5) (hl2 : subj.length ≤ 5),
   LClaim KK qq 20 w mean mg mb 411 ((lp, o0) :: (e1, o1) :: (e2, o2) :: (e3, o3) :: (c, tup #[.ref t, rv]) :: (t, tup #[.str (S "chars") k, .str text k']) :: rest) [.ref c, .int i ta, nv, .str subj ts, .ref lp, hv]
     (fun r news' => (r = .none ∧ (Txt.slice subj (some i) (some (i + (text.length : Int))) == text) = false ∧ ∃ j1 x1 j2 x2, news' = (j1, x1) :: (j2, x2) :: (lp, o0) :: (e1, o1) :: (e2, o2) :: (e3, o3) :: (c, tup #[.ref t, rv]) :: (t, tup #[.str (S "chars") k, .str text k']) :: rest) ∨ (∃ d0 tok j1 x1 j2 x2, r = .ref d0 ∧ (Txt.slice subj (some i) (some (i + (text.length : Int))) == text) = true ∧ news' = (d0, tup #[rv, .int (i + (text.length : Int)) tok, nv]) :: (j1, x1) :: (j2, x2) :: (lp, o0) :: (e1, o1) :: (e2, o2) :: (e3, o3) :: (c, tup #[.ref t, rv]) :: (t, tup #[.str (S "chars") k, .str text k']) :: rest ∧ Ab lp e1 e2 e3 d0))
def adv_tab_C (KK : PySem.Params → Frag) (qq : Program) : Prop := ∀ (w : World) (mean : ExcName → Option Value) (mg mb : SStr → Option Value) (c t lp e1 e2 e3 : Addr) (o0 o1 o2 o3 : Obj) (k k' ts ta : Tok) (subj : SStr) (i j : Int) (rv nv hv : Value) (rest : Led)    (hi : 0 ≤ i ∧ i ≤ 100) (hj : 0 ≤ j ∧ j ≤ 100) (hl2 : subj.length ≤ 5),
   LClaim KK qq 20 w mean mg mb 411 ((lp, o0) :: (e1, o1) :: (e2, o2) :: (e3, o3) :: (c, tup #[.ref t, rv]) :: (t, tup #[.str (S "tab") k, .int j k']) :: rest) [.ref c, .int i ta, nv, .str subj ts, .ref lp, hv]
     (fun r news' => (r = .none ∧ ¬ (i ≤ j ∧ j ≤ (subj.length : Int)) ∧ ∃ j1 x1 j2 x2, news' = (j1, x1) :: (j2, x2) :: (lp, o0) :: (e1, o1) :: (e2, o2) :: (e3, o3) :: (c, tup #[.ref t, rv]) :: (t, tup #[.str (S "tab") k, .int j k']) :: rest) ∨ (∃ d0 tok j1 x1 j2 x2, r = .ref d0 ∧ (i ≤ j ∧ j ≤ (subj.length : Int)) ∧ news' = (d0, tup #[rv, .int j tok, nv]) :: (j1, x1) :: (j2, x2) :: (lp, o0) :: (e1, o1) :: (e2, o2) :: (e3, o3) :: (c, tup #[.ref t, rv]) :: (t, tup #[.str (S "tab") k, .int j k']) :: rest ∧ Ab lp e1 e2 e3 d0))
def adv_arb_C (KK : PySem.Params → Frag) (qq : Program) : Prop := ∀ (w : World) (mean : ExcName → Option Value) (mg mb : SStr → Option Value) (c t lp e1 e2 e3 : Addr) (o1 o2 o3 : Obj) (k ts ta : Tok) (subj : SStr) (i : Int) (its : Array Value) (ep : Nat) (rv nv hv : Value) (rest : Led)    (h1 : c ≠ lp) (h2 : t ≠ lp) (n1 : e1 ≠ lp) (n2 : e2 ≠ lp) (n3 : e3 ≠ lp) (h3 : ∀ p ∈ rest, p.1 ≠ lp) (hsz : its.size ≤ sizeLine) (hi : 0 ≤ i ∧ i ≤ 100) (hl2 : subj.length ≤ 5),
   LClaim KK qq 20 w mean mg mb 411 ((lp, lst its ep) :: (e1, o1) :: (e2, o2) :: (e3, o3) :: (c, tup #[.ref t, rv]) :: (t, tup #[.str (S "arb") k]) :: rest) [.ref c, .int i ta, nv, .str subj ts, .ref lp, hv]
     (fun r news' => (¬ i < (subj.length : Int) ∧ ∃ d0 j1 x1 j2 x2, r = .ref d0 ∧ news' = (d0, tup #[rv, .int i ta, nv]) :: (j1, x1) :: (j2, x2) :: (lp, lst its ep) :: (e1, o1) :: (e2, o2) :: (e3, o3) :: (c, tup #[.ref t, rv]) :: (t, tup #[.str (S "arb") k]) :: rest ∧ Ab lp e1 e2 e3 d0) ∨ (i < (subj.length : Int) ∧ ∃ d0 d1 d2 tok j1 x1 j2 x2, r = .ref d0 ∧ news' = (d0, tup #[rv, .int i ta, nv]) :: (d1, tup #[.ref d2, .int (i + 1) tok, nv]) :: (d2, tup #[.ref t, rv]) :: (j1, x1) :: (j2, x2) :: (lp, lst (its.push (.ref d1)) (ep + 1)) :: (e1, o1) :: (e2, o2) :: (e3, o3) :: (c, tup #[.ref t, rv]) :: (t, tup #[.str (S "arb") k]) :: rest ∧ Ab lp e1 e2 e3 d0 ∧ Ab lp e1 e2 e3 d1 ∧ Ab lp e1 e2 e3 d2))
def adv_end_C (KK : PySem.Params → Frag) (qq : Program) : Prop := ∀ (w : World) (mean : ExcName → Option Value) (mg mb : SStr → Option Value) (c t lp dx hx rf rdx : Addr) (o0 ov : Obj) (rv nv : Value) (k ts ta tb : Tok) (r1 r2 r3 r4 r5 : Tok) (subj : SStr) (i j : Int) (lits : Array Value) (lep rlep : Nat) (vx rl lg : Addr) (a1 a2 a3 a4 a5 a6 a7 a8 ks : Tok) (kk : Int) (rest : Led) (kvs : List (SStr × Value))    (hi : 0 ≤ i ∧ i ≤ 100) (hj : 0 ≤ j ∧ j ≤ 100) (hl2 : subj.length ≤ 5) (hov : SD w ov kvs) (hkv : kvs.length ≤ sizeLine) (hsz : lits.size ≤ sizeLine)    (n1 : lp ≠ vx) (n2 : lp ≠ lg) (n3 : dx ≠ vx) (n4 : dx ≠ lg) (n5 : vx ≠ lg) (n6 : hx ≠ vx) (n7 : hx ≠ lg) (n8 : rl ≠ vx) (n9 : rl ≠ lg) (n10 : rf ≠ vx) (n11 : rf ≠ lg) (n12 : rdx ≠ vx) (n13 : rdx ≠ lg) (n14 : c ≠ vx) (n15 : c ≠ lg) (n16 : t ≠ vx) (n17 : t ≠ lg)    (h3 : ∀ p ∈ rest, p.1 ≠ vx) (h4 : ∀ p ∈ rest, p.1 ≠ lg),
   LClaim KK qq 20 w mean mg mb 411 ((lp, o0) :: (dx, hostD w vx rl lg a1 a2 a3 a4 a5 a6 a7 a8 kk ks) :: (vx, ov) :: (lg, lst lits lep) :: (hx, instObj 229 dx) :: (rl, lst #[] rlep) :: (rf, instObj 138 rdx) :: (rdx, refD w r1 r2 r3 r4 r5) :: (c, tup #[.ref t, rv]) :: (t, tup #[.str (S "end now") k, .ref rf, .int j tb]) :: rest) [.ref c, .int i ta, nv, .str subj ts, .ref lp, .ref hx]
     (fun r news' => ∃ d0 ov' tok lits' lep', r = .ref d0 ∧ SD w ov' (stored kvs (S "V") (.str (Txt.slice subj (some j) (some i)) tok)) ∧ lits'.size = lits.size + 1 ∧
       (∃ j1 x1 j2 x2, news' = (d0, tup #[rv, .int i ta, nv]) :: (j1, x1) :: (j2, x2) :: (lp, o0) :: (dx, hostD w vx rl lg a1 a2 a3 a4 a5 a6 a7 a8 kk ks) :: (vx, ov') :: (lg, lst lits' lep') :: (hx, instObj 229 dx) :: (rl, lst #[] rlep) :: (rf, instObj 138 rdx) :: (rdx, refD w r1 r2 r3 r4 r5) :: (c, tup #[.ref t, rv]) :: (t, tup #[.str (S "end now") k, .ref rf, .int j tb]) :: rest) ∧ Ab lp dx vx lg d0)
def host_step_C (KK : PySem.Params → Frag) (qq : Program) : Prop := ∀ (w : World) (mean : ExcName → Option Value) (mg mb : SStr → Option Value) (hx dx : Addr) (vx rl lg : Addr) (a1 a2 a3 a4 a5 a6 a7 a8 ks : Tok) (kk : Int) (rest : Led)    (h1 : hx ≠ dx) (h3 : ∀ p ∈ rest, p.1 ≠ dx) (hk0 : 0 ≤ kk) (hk1 : kk < 9999),
   LClaim KK qq 20 w mean mg mb 226 ((dx, hostD w vx rl lg a1 a2 a3 a4 a5 a6 a7 a8 kk ks) :: (hx, instObj 229 dx) :: rest) [.ref hx]
     (fun r news' => ∃ ks', r = .none ∧ news' = (dx, hostD w vx rl lg a1 a2 a3 a4 a5 a6 a7 a8 (kk + 1) ks') :: (hx, instObj 229 dx) :: rest)
structure Steps (KK : PySem.Params → Frag) (qq : Program) : Prop where
  adv_alt : adv_alt_C KK qq
  adv_cat : adv_cat_C KK qq
  adv_now : adv_now_C KK qq
  adv_chars : adv_chars_C KK qq
  adv_tab : adv_tab_C KK qq
  adv_arb : adv_arb_C KK qq
  adv_end : adv_end_C KK qq
  host_step : host_step_C KK qq
end Mine
end
section
open PySem PySem.W PyProof.Rows
namespace Mine
variable {KK : PySem.Params → Frag} {qq : Program}


inductive Nd where
  | chars (s : SStr)
  | alt (a b : Nd)
  | cat (a b : Nd)
  | tab (p : Int)
  | arb
  | now (a : Nd)
  | endn (b : Int)

inductive NdR (rf : Addr) (rest : Led) : Nd → Value → Prop
  | chars {s t k k'} : (t, tup #[.str (S "chars") k, .str s k']) ∈ rest → NdR rf rest (.chars s) (.ref t)
  | alt {a b va vb t k} : (t, tup #[.str (S "alt") k, va, vb]) ∈ rest → NdR rf rest a va → NdR rf rest b vb → NdR rf rest (.alt a b) (.ref t)
  | cat {a b va vb t k} : (t, tup #[.str (S "cat") k, va, vb]) ∈ rest → NdR rf rest a va → NdR rf rest b vb → NdR rf rest (.cat a b) (.ref t)
  | tab {p t k k'} : (t, tup #[.str (S "tab") k, .int p k']) ∈ rest → NdR rf rest (.tab p) (.ref t)
  | arb {t k} : (t, tup #[.str (S "arb") k]) ∈ rest → NdR rf rest .arb (.ref t)
  | now {a va t k} : (t, tup #[.str (S "now") k, va, .ref rf]) ∈ rest → NdR rf rest a va → NdR rf rest (.now a) (.ref t)
  | endn {b t k k'} : (t, tup #[.str (S "end now") k, .ref rf, .int b k']) ∈ rest → NdR rf rest (.endn b) (.ref t)
inductive ChR (rf : Addr) (rest : Led) : List Nd → Value → Prop
  | nil : ChR rf rest [] .none
  | cons {n l vn vl t} : (t, tup #[vn, vl]) ∈ rest → NdR rf rest n vn → ChR rf rest l vl → ChR rf rest (n :: l) (.ref t)
inductive PlR (rf : Addr) (rest : Led) (nv : Value) : List (List Nd × Int) → Array Value → Prop
  | nil : PlR rf rest nv [] #[]
  | cons {l i ps its t tk cv} : (t, tup #[cv, .int i tk, nv]) ∈ rest → ChR rf rest l cv → PlR rf rest nv ps its → PlR rf rest nv ((l, i) :: ps) (its.push (.ref t))
theorem NdR.up {rf : Addr} {rest rest' : Led} {n : Nd} {v : Value} (h : NdR rf rest n v) (s : Sub rest rest') : NdR rf rest' n v := by
  induction h with
  | chars h => exact .chars (s _ h)
  | alt h _ _ a b => exact .alt (s _ h) a b
  | cat h _ _ a b => exact .cat (s _ h) a b
  | tab h => exact .tab (s _ h)
  | arb h => exact .arb (s _ h)
  | now h _ a => exact .now (s _ h) a
  | endn h => exact .endn (s _ h)
theorem ChR.up {rf : Addr} {rest rest' : Led} {l : List Nd} {v : Value} (h : ChR rf rest l v) (s : Sub rest rest') : ChR rf rest' l v := by
  induction h with
  | nil => exact .nil
  | cons h n _ c => exact .cons (s _ h) (n.up s) c
theorem PlR.up {rf : Addr} {rest rest' : Led} {nv : Value} {ps its} (h : PlR rf rest nv ps its) (s : Sub rest rest') : PlR rf rest' nv ps its := by
  induction h with
  | nil => exact .nil
  | cons h n _ c => exact .cons (s _ h) (n.up s) c
theorem PlR.size {rf : Addr} {rest : Led} {nv : Value} {ps its} (h : PlR rf rest nv ps its) : its.size = ps.length := by
  induction h with
  | nil => rfl
  | cons h n _ c => simp [c]

def stp (subj : SStr) (n : Nd) (l : List Nd) (i : Int) : Option (List Nd × Int) := match n with
  | .chars s => if (Txt.slice subj (some i) (some (i + (s.length : Int))) == s) = true then some (l, i + (s.length : Int)) else none
  | .alt a _ => some (a :: l, i)
  | .cat a b => some (a :: b :: l, i)
  | .tab p => if i ≤ p ∧ p ≤ (subj.length : Int) then some (l, p) else none
  | .arb => some (l, i)
  | .now a => some (a :: .endn i :: l, i)
  | .endn _ => some (l, i)
def pls (subj : SStr) (n : Nd) (l : List Nd) (i : Int) (ps : List (List Nd × Int)) : List (List Nd × Int) := match n with
  | .alt _ b => (b :: l, i) :: ps
  | .arb => if i < (subj.length : Int) then (.arb :: l, i + 1) :: ps else ps
  | _ => ps
def vls (subj : SStr) (n : Nd) (i : Int) (V : Option SStr) : Option SStr := match n with
  | .endn b => some (Txt.slice subj (some b) (some i))
  | _ => V
def okN : Nd → Bool
  | .chars s => decide (s.length ≤ 5)
  | .tab p => decide (0 ≤ p) && decide (p ≤ 100)
  | .endn b => decide (0 ≤ b) && decide (b ≤ 100)
  | _ => true
def okAt (n : Nd) (i : Int) (ps : List (List Nd × Int)) : Bool := okN n && decide (0 ≤ i) && decide (i ≤ 100) && decide (ps.length ≤ 50)
def run (subj : SStr) : Nat → List Nd → Int → List (List Nd × Int) → Option SStr → Option (Option Int × Option SStr)
  | 0, _, _, _, _ => none
  | _ + 1, [], i, _, V => some (some i, V)
  | f + 1, n :: l, i, ps, V => if okAt n i ps = true then
      match stp subj n l i with
      | some (l', i') => run subj f l' i' (pls subj n l i ps) (vls subj n i V)
      | none => match ps with
        | [] => some (none, V)
        | (l2, i2) :: ps2 => run subj f l2 i2 ps2 V
    else none
def popRun (subj : SStr) (f : Nat) (ps : List (List Nd × Int)) (V : Option SStr) : Option (Option Int × Option SStr) := match ps with
  | [] => some (none, V)
  | (l, i) :: ps' => run subj f l i ps' V

def VR (V : Option SStr) (kvs : List (SStr × Value)) : Prop := match V with
  | none => kvs = []
  | some p => ∃ tk, kvs = [(S "V", .str p tk)]
theorem VR.len {V kvs} (h : VR V kvs) : kvs.length ≤ 1 := by
  cases V with
  | none => rw [show kvs = [] from h]; exact Nat.zero_le _
  | some p => obtain ⟨tk, rfl⟩ := h; exact Nat.le_refl _
theorem VR.put {V kvs} (h : VR V kvs) (p : SStr) (tk : Tok) : VR (some p) (stored kvs (S "V") (.str p tk)) := by
  cases V with
  | none => rw [show kvs = [] from h]; exact ⟨tk, rfl⟩
  | some q => obtain ⟨tk', rfl⟩ := h; exact ⟨tk, by simp [stored]⟩

structure Fx where
  lp : Addr
  dx : Addr
  vx : Addr
  lg : Addr
  hx : Addr
  rl : Addr
  rf : Addr
  rdx : Addr
  na : Addr
  a1 : Tok
  a2 : Tok
  a3 : Tok
  a4 : Tok
  a5 : Tok
  a6 : Tok
  a7 : Tok
  a8 : Tok
  r1 : Tok
  r2 : Tok
  r3 : Tok
  r4 : Tok
  r5 : Tok
  rlep : Nat
abbrev Fx.stat (X : Fx) (w : World) (rest : Led) : Led := (X.hx, instObj 229 X.dx) :: (X.rl, lst #[] X.rlep) :: (X.rf, instObj 138 X.rdx) :: (X.rdx, refD w X.r1 X.r2 X.r3 X.r4 X.r5) :: (X.na, tup #[]) :: rest
abbrev Fx.host (X : Fx) (w : World) (kk : Int) (ks : Tok) : Obj := hostD w X.vx X.rl X.lg X.a1 X.a2 X.a3 X.a4 X.a5 X.a6 X.a7 X.a8 kk ks
abbrev Can (X : Fx) (w : World) (its : Array Value) (ep : Nat) (kk : Int) (ks : Tok) (ov : Obj) (lits : Array Value) (lep : Nat) (rest : Led) : Led :=
  (X.lp, lst its ep) :: (X.dx, X.host w kk ks) :: (X.vx, ov) :: (X.lg, lst lits lep) :: X.stat w rest
/-- all the turned objects lie apart from the rest and from each other -/
abbrev NL (a b : Nat) : Prop := a < b
structure Fx.Ok (X : Fx) : Prop where
  o1 : NL X.rdx X.rf
  o2 : NL X.rf X.vx
  o3 : NL X.vx X.rl
  o4 : NL X.rl X.dx
  o5 : NL X.dx X.hx
  o6 : NL X.hx X.lg
  o7 : NL X.lg X.lp
  o8 : X.na ≠ X.lp
  o9 : X.na ≠ X.dx
  o10 : X.na ≠ X.vx
  o11 : X.na ≠ X.lg
abbrev Apart (X : Fx) (a : Nat) : Prop := a ≠ X.lp ∧ a ≠ X.dx ∧ a ≠ X.vx ∧ a ≠ X.lg
def Aps (X : Fx) (rest : Led) : Prop := ∀ p ∈ rest, Apart X p.1
theorem Aps.cons {X : Fx} {rest : Led} {d : Addr} {o : Obj} (h : Ab X.lp X.dx X.vx X.lg d) (k : Aps X rest) : Aps X ((d, o) :: rest) := by
  intro p hp
  rcases List.mem_cons.mp hp with rfl | hp
  · exact ⟨Nat.ne_of_gt h.1, Nat.ne_of_gt h.2.1, Nat.ne_of_gt h.2.2.1, Nat.ne_of_gt h.2.2.2⟩
  · exact k p hp
theorem LClaim.use {rm : Nat} {w : World} {mean : ExcName → Option Value} {mg mb : SStr → Option Value} {f : Addr} {n0 n : Led} {vs : List Value} {R0 R : Value → Led → Prop} (C : LClaim KK qq rm w mean mg mb f n0 vs R0) (hs : Sub n0 n) (hR : ∀ r a, R0 r a → ∃ b, Sub b a ∧ R r b) : LClaim KK qq rm w mean mg mb f n vs R := by
  intro dp un gd cn cs a ccd cl outer A₀ base h₀ L m s Q E B F X N T hk hd hu hret
  refine C dp un gd cn cs a ccd cl outer A₀ base h₀ L m s Q E B F X (cb_drop N hs) T hk hd hu ?_
  intro r n' h' tk' hr F' N'
  obtain ⟨b, hb, hr'⟩ := hR r n' hr
  exact hret r b h' tk' hr' F' (cb_drop N' hb)
end Mine
end
section
open PySem PySem.W PyProof.Rows
namespace Mine
variable {KK : PySem.Params → Frag} {qq : Program}


def AdvR (X : Fx) (w : World) (subj : SStr) (n : Nd) (l : List Nd) (i : Int) (ps : List (List Nd × Int)) (V : Option SStr) (its : Array Value) (ep : Nat) (kk : Int) (ks : Tok) (ov : Obj) (lits : Array Value) (lep : Nat) (rest : Led) (r : Value) (news : Led) : Prop :=
  (stp subj n l i = none ∧ r = .none ∧ news = Can X w its ep kk ks ov lits lep rest) ∨
  (∃ l' i' d cv tok its' ep' ov' kvs' lits' lep' rest', stp subj n l i = some (l', i') ∧ r = .ref d ∧ news = (d, tup #[cv, .int i' tok, .ref X.na]) :: Can X w its' ep' kk ks ov' lits' lep' rest' ∧
    ChR X.rf rest' l' cv ∧ PlR X.rf rest' (.ref X.na) (pls subj n l i ps) its' ∧ SD w ov' kvs' ∧ VR (vls subj n i V) kvs' ∧ lits'.size ≤ lits.size + 1 ∧ Sub rest rest' ∧ Aps X rest' ∧ Apart X d)

theorem can_sub {X : Fx} {w : World} {o0 o1 o2 o3 oc ot : Obj} {c t : Addr} {rest : Led} (hc : (c, oc) ∈ rest) (ht : (t, ot) ∈ rest) :
    Sub ((X.lp, o0) :: (X.dx, o1) :: (X.vx, o2) :: (X.lg, o3) :: (c, oc) :: (t, ot) :: X.stat w rest) ((X.lp, o0) :: (X.dx, o1) :: (X.vx, o2) :: (X.lg, o3) :: X.stat w rest) := by
  intro p hp
  simp only [Fx.stat, List.mem_cons] at hp ⊢
  rcases hp with h | h | h | h | h | h | h
  · exact .inl h
  · exact .inr (.inl h)
  · exact .inr (.inr (.inl h))
  · exact .inr (.inr (.inr (.inl h)))
  · subst h; simp [hc]
  · subst h; simp [ht]
  · exact .inr (.inr (.inr (.inr h)))
theorem end_sub {X : Fx} {w : World} {o0 o1 o2 o3 oc ot : Obj} {c t : Addr} {rest : Led} (hc : (c, oc) ∈ rest) (ht : (t, ot) ∈ rest) :
    Sub ((X.lp, o0) :: (X.dx, o1) :: (X.vx, o2) :: (X.lg, o3) :: (X.hx, instObj 229 X.dx) :: (X.rl, lst #[] X.rlep) :: (X.rf, instObj 138 X.rdx) :: (X.rdx, refD w X.r1 X.r2 X.r3 X.r4 X.r5) :: (c, oc) :: (t, ot) :: (X.na, tup #[]) :: rest) ((X.lp, o0) :: (X.dx, o1) :: (X.vx, o2) :: (X.lg, o3) :: X.stat w rest) := by
  intro p hp
  simp only [Fx.stat, List.mem_cons] at hp ⊢
  rcases hp with h | h | h | h | h | h | h | h | h | h | h
  · exact .inl h
  · exact .inr (.inl h)
  · exact .inr (.inr (.inl h))
  · exact .inr (.inr (.inr (.inl h)))
  · exact .inr (.inr (.inr (.inr (.inl h))))
  · exact .inr (.inr (.inr (.inr (.inr (.inl h)))))
  · exact .inr (.inr (.inr (.inr (.inr (.inr (.inl h))))))
  · exact .inr (.inr (.inr (.inr (.inr (.inr (.inr (.inl h)))))))
  · subst h; simp [hc]
  · subst h; simp [ht]
  · exact .inr (.inr (.inr (.inr (.inr (.inr (.inr (.inr h)))))))
theorem stat_ne {X : Fx} {w : World} {rest : Led} (O : X.Ok) (A : Aps X rest) : (∀ p ∈ X.stat w rest, p.1 ≠ X.lp) := by
  intro p hp
  have := O.o1; have := O.o2; have := O.o3; have := O.o4; have := O.o5; have := O.o6; have := O.o7
  simp only [Fx.stat, List.mem_cons] at hp
  rcases hp with rfl | rfl | rfl | rfl | rfl | h
  · exact neN (by dsimp only; omega)
  · exact neN (by dsimp only; omega)
  · exact neN (by dsimp only; omega)
  · exact neN (by dsimp only; omega)
  · exact O.o8
  · exact (A p h).1
theorem ab_apart {X : Fx} {d : Addr} (h : Ab X.lp X.dx X.vx X.lg d) : Apart X d := ⟨Nat.ne_of_gt h.1, Nat.ne_of_gt h.2.1, Nat.ne_of_gt h.2.2.1, Nat.ne_of_gt h.2.2.2⟩

section
variable {X : Fx} {w : World} {mean : ExcName → Option Value} {mg mb : SStr → Option Value} {subj : SStr} {l : List Nd} {i : Int} {ps : List (List Nd × Int)} {V : Option SStr} {its : Array Value} {ep : Nat} {kk : Int} {ks ta ts : Tok} {ov : Obj} {kvs : List (SStr × Value)} {lits : Array Value} {lep : Nat} {rest : Led} {c t : Addr} {vl : Value}
theorem any_cat (St : Steps KK qq) (O : X.Ok) (A : Aps X rest) {a b : Nd} {va vb : Value} {k : Tok} (hc : (c, tup #[.ref t, vl]) ∈ rest) (ht : (t, tup #[.str (S "cat") k, va, vb]) ∈ rest) (ra : NdR X.rf rest a va) (rb : NdR X.rf rest b vb) (rl : ChR X.rf rest l vl) (rp : PlR X.rf rest (.ref X.na) ps its) (hov : SD w ov kvs) (hV : VR V kvs) :
    LClaim KK qq 20 w mean mg mb 411 (Can X w its ep kk ks ov lits lep rest) [.ref c, .int i ta, .ref X.na, .str subj ts, .ref X.lp, .ref X.hx] (AdvR X w subj (.cat a b) l i ps V its ep kk ks ov lits lep rest) := by
  refine (St.adv_cat w mean mg mb c t X.lp X.dx X.vx X.lg (lst its ep) (X.host w kk ks) ov (lst lits lep) va vb (.str subj ts) (.int i ta) k vl (.ref X.na) (.ref X.hx) (X.stat w rest)).use (can_sub hc ht) ?_
  rintro r n' ⟨d0, d1, d2, j1, x1, rfl, rfl, h0, h1, h2⟩
  have s : Sub rest ((d1, tup #[va, .ref d2]) :: (d2, tup #[vb, vl]) :: rest) := sub_tail (sub_tail sub_refl)
  refine ⟨(d0, tup #[.ref d1, .int i ta, .ref X.na]) :: Can X w its ep kk ks ov lits lep ((d1, tup #[va, .ref d2]) :: (d2, tup #[vb, vl]) :: rest), ?_, .inr ⟨_, _, d0, .ref d1, ta, its, ep, ov, kvs, lits, lep, _, rfl, rfl, rfl, ?_, rp.up s, hov, hV, by omega, s, Aps.cons h1 (Aps.cons h2 A), ab_apart h0⟩⟩
  · intro p hp
    simp only [Can, Fx.stat, List.mem_cons] at hp ⊢
    grind
  · exact .cons (.head _) (ra.up s) (.cons (.tail _ (.head _)) (rb.up s) (rl.up s))
theorem any_alt (St : Steps KK qq) (O : X.Ok) (A : Aps X rest) {a b : Nd} {va vb : Value} {k : Tok} (hc : (c, tup #[.ref t, vl]) ∈ rest) (ht : (t, tup #[.str (S "alt") k, va, vb]) ∈ rest) (ra : NdR X.rf rest a va) (rb : NdR X.rf rest b vb) (rl : ChR X.rf rest l vl) (rp : PlR X.rf rest (.ref X.na) ps its) (hov : SD w ov kvs) (hV : VR V kvs) (hps : ps.length ≤ 50) :
    LClaim KK qq 20 w mean mg mb 411 (Can X w its ep kk ks ov lits lep rest) [.ref c, .int i ta, .ref X.na, .str subj ts, .ref X.lp, .ref X.hx] (AdvR X w subj (.alt a b) l i ps V its ep kk ks ov lits lep rest) := by
  have o3 := O.o3; have o4 := O.o4; have o5 := O.o5; have o6 := O.o6; have o7 := O.o7
  refine (St.adv_alt w mean mg mb c t X.lp X.dx X.vx X.lg (X.host w kk ks) ov (lst lits lep) va vb (.str subj ts) (.int i ta) k its ep vl (.ref X.na) (.ref X.hx) (X.stat w rest)
    (A _ hc).1 (A _ ht).1 (neN (by omega)) (neN (by omega)) (neN (by omega)) (stat_ne O A) (by rw [rp.size, sizeLine_eq]; omega)).use (can_sub hc ht) ?_
  rintro r n' ⟨d0, d1, d2, d3, j1, x1, rfl, rfl, h0, h1, h2, h3⟩
  have s : Sub rest ((d1, tup #[va, vl]) :: (d2, tup #[.ref d3, .int i ta, .ref X.na]) :: (d3, tup #[vb, vl]) :: rest) := sub_tail (sub_tail (sub_tail sub_refl))
  refine ⟨(d0, tup #[.ref d1, .int i ta, .ref X.na]) :: Can X w (its.push (.ref d2)) (ep + 1) kk ks ov lits lep ((d1, tup #[va, vl]) :: (d2, tup #[.ref d3, .int i ta, .ref X.na]) :: (d3, tup #[vb, vl]) :: rest), ?_, .inr ⟨_, _, d0, .ref d1, ta, _, _, ov, kvs, lits, lep, _, rfl, rfl, rfl, ?_, ?_, hov, hV, by omega, s, Aps.cons h1 (Aps.cons h2 (Aps.cons h3 A)), ab_apart h0⟩⟩
  · intro p hp
    simp only [Can, Fx.stat, List.mem_cons] at hp ⊢
    grind
  · exact .cons (.head _) (ra.up s) (rl.up s)
  · exact .cons (.tail _ (.head _)) (.cons (.tail _ (.tail _ (.head _))) (rb.up s) (rl.up s)) (rp.up s)
theorem any_now (St : Steps KK qq) (O : X.Ok) (A : Aps X rest) {a : Nd} {va : Value} {k : Tok} (hc : (c, tup #[.ref t, vl]) ∈ rest) (ht : (t, tup #[.str (S "now") k, va, .ref X.rf]) ∈ rest) (ra : NdR X.rf rest a va) (rl : ChR X.rf rest l vl) (rp : PlR X.rf rest (.ref X.na) ps its) (hov : SD w ov kvs) (hV : VR V kvs) :
    LClaim KK qq 20 w mean mg mb 411 (Can X w its ep kk ks ov lits lep rest) [.ref c, .int i ta, .ref X.na, .str subj ts, .ref X.lp, .ref X.hx] (AdvR X w subj (.now a) l i ps V its ep kk ks ov lits lep rest) := by
  refine (St.adv_now w mean mg mb c t X.lp X.dx X.vx X.lg (lst its ep) (X.host w kk ks) ov (lst lits lep) va (.ref X.rf) (.str subj ts) (.int i ta) k vl (.ref X.na) (.ref X.hx) (X.stat w rest)).use (can_sub hc ht) ?_
  rintro r n' ⟨d0, d1, d2, d3, k', j1, x1, rfl, rfl, h0, h1, h2, h3⟩
  have s : Sub rest ((d1, tup #[va, .ref d2]) :: (d2, tup #[.ref d3, vl]) :: (d3, tup #[.str (S "end now") k', .ref X.rf, .int i ta]) :: rest) := sub_tail (sub_tail (sub_tail sub_refl))
  refine ⟨(d0, tup #[.ref d1, .int i ta, .ref X.na]) :: Can X w its ep kk ks ov lits lep ((d1, tup #[va, .ref d2]) :: (d2, tup #[.ref d3, vl]) :: (d3, tup #[.str (S "end now") k', .ref X.rf, .int i ta]) :: rest), ?_, .inr ⟨_, _, d0, .ref d1, ta, its, ep, ov, kvs, lits, lep, _, rfl, rfl, rfl, ?_, rp.up s, hov, hV, by omega, s, Aps.cons h1 (Aps.cons h2 (Aps.cons h3 A)), ab_apart h0⟩⟩
  · intro p hp
    simp only [Can, Fx.stat, List.mem_cons] at hp ⊢
    grind
  · exact .cons (.head _) (ra.up s) (.cons (.tail _ (.head _)) (.endn (.tail _ (.tail _ (.head _)))) (rl.up s))
theorem any_chars (St : Steps KK qq) (A : Aps X rest) {s : SStr} {k k' : Tok} (hc : (c, tup #[.ref t, vl]) ∈ rest) (ht : (t, tup #[.str (S "chars") k, .str s k']) ∈ rest) (rl : ChR X.rf rest l vl) (rp : PlR X.rf rest (.ref X.na) ps its) (hov : SD w ov kvs) (hV : VR V kvs)
    (hi : 0 ≤ i ∧ i ≤ 100) (h5 : s.length ≤ 5) (hs5 : subj.length ≤ 5) :
    LClaim KK qq 20 w mean mg mb 411 (Can X w its ep kk ks ov lits lep rest) [.ref c, .int i ta, .ref X.na, .str subj ts, .ref X.lp, .ref X.hx] (AdvR X w subj (.chars s) l i ps V its ep kk ks ov lits lep rest) := by
  refine (St.adv_chars w mean mg mb c t X.lp X.dx X.vx X.lg (lst its ep) (X.host w kk ks) ov (lst lits lep) k k' ts ta s subj i vl (.ref X.na) (.ref X.hx) (X.stat w rest) hi h5 hs5).use (can_sub hc ht) ?_
  rintro r n' (⟨rfl, hm, j1, x1, j2, x2, rfl⟩ | ⟨d0, tok, j1, x1, j2, x2, rfl, hm, rfl, h0⟩)
  · refine ⟨Can X w its ep kk ks ov lits lep rest, ?_, .inl ⟨by simp [stp, hm], rfl, rfl⟩⟩
    intro p hp
    simp only [Can, Fx.stat, List.mem_cons] at hp ⊢
    grind
  · refine ⟨(d0, tup #[vl, .int (i + (s.length : Int)) tok, .ref X.na]) :: Can X w its ep kk ks ov lits lep rest, ?_, .inr ⟨l, i + (s.length : Int), d0, vl, tok, its, ep, ov, kvs, lits, lep, _, by simp [stp, hm], rfl, rfl, rl, rp, hov, hV, by omega, sub_refl, A, ab_apart h0⟩⟩
    intro p hp
    simp only [Can, Fx.stat, List.mem_cons] at hp ⊢
    grind
theorem any_tab (St : Steps KK qq) (A : Aps X rest) {j : Int} {k k' : Tok} (hc : (c, tup #[.ref t, vl]) ∈ rest) (ht : (t, tup #[.str (S "tab") k, .int j k']) ∈ rest) (rl : ChR X.rf rest l vl) (rp : PlR X.rf rest (.ref X.na) ps its) (hov : SD w ov kvs) (hV : VR V kvs)
    (hi : 0 ≤ i ∧ i ≤ 100) (hj : 0 ≤ j ∧ j ≤ 100) (hs5 : subj.length ≤ 5) :
    LClaim KK qq 20 w mean mg mb 411 (Can X w its ep kk ks ov lits lep rest) [.ref c, .int i ta, .ref X.na, .str subj ts, .ref X.lp, .ref X.hx] (AdvR X w subj (.tab j) l i ps V its ep kk ks ov lits lep rest) := by
  refine (St.adv_tab w mean mg mb c t X.lp X.dx X.vx X.lg (lst its ep) (X.host w kk ks) ov (lst lits lep) k k' ts ta subj i j vl (.ref X.na) (.ref X.hx) (X.stat w rest) hi hj hs5).use (can_sub hc ht) ?_
  rintro r n' (⟨rfl, hm, j1, x1, j2, x2, rfl⟩ | ⟨d0, tok, j1, x1, j2, x2, rfl, hm, rfl, h0⟩)
  · refine ⟨Can X w its ep kk ks ov lits lep rest, ?_, .inl ⟨if_neg hm, rfl, rfl⟩⟩
    intro p hp
    simp only [Can, Fx.stat, List.mem_cons] at hp ⊢
    grind
  · refine ⟨(d0, tup #[vl, .int j tok, .ref X.na]) :: Can X w its ep kk ks ov lits lep rest, ?_, .inr ⟨l, j, d0, vl, tok, its, ep, ov, kvs, lits, lep, _, if_pos hm, rfl, rfl, rl, rp, hov, hV, by omega, sub_refl, A, ab_apart h0⟩⟩
    intro p hp
    simp only [Can, Fx.stat, List.mem_cons] at hp ⊢
    grind
theorem any_arb (St : Steps KK qq) (O : X.Ok) (A : Aps X rest) {k : Tok} (hc : (c, tup #[.ref t, vl]) ∈ rest) (ht : (t, tup #[.str (S "arb") k]) ∈ rest) (rl : ChR X.rf rest l vl) (rp : PlR X.rf rest (.ref X.na) ps its) (hov : SD w ov kvs) (hV : VR V kvs)
    (hi : 0 ≤ i ∧ i ≤ 100) (hs5 : subj.length ≤ 5) (hps : ps.length ≤ 50) :
    LClaim KK qq 20 w mean mg mb 411 (Can X w its ep kk ks ov lits lep rest) [.ref c, .int i ta, .ref X.na, .str subj ts, .ref X.lp, .ref X.hx] (AdvR X w subj .arb l i ps V its ep kk ks ov lits lep rest) := by
  have o3 := O.o3; have o4 := O.o4; have o5 := O.o5; have o6 := O.o6; have o7 := O.o7
  refine (St.adv_arb w mean mg mb c t X.lp X.dx X.vx X.lg (X.host w kk ks) ov (lst lits lep) k ts ta subj i its ep vl (.ref X.na) (.ref X.hx) (X.stat w rest)
    (A _ hc).1 (A _ ht).1 (neN (by omega)) (neN (by omega)) (neN (by omega)) (stat_ne O A) (by rw [rp.size, sizeLine_eq]; omega) hi hs5).use (can_sub hc ht) ?_
  rintro r n' (⟨hm, d0, j1, x1, j2, x2, rfl, rfl, h0⟩ | ⟨hm, d0, d1, d2, tok, j1, x1, j2, x2, rfl, rfl, h0, h1, h2⟩)
  · refine ⟨(d0, tup #[vl, .int i ta, .ref X.na]) :: Can X w its ep kk ks ov lits lep rest, ?_, .inr ⟨l, i, d0, vl, ta, its, ep, ov, kvs, lits, lep, _, rfl, rfl, rfl, rl, by simpa only [pls, if_neg hm] using rp, hov, hV, by omega, sub_refl, A, ab_apart h0⟩⟩
    intro p hp
    simp only [Can, Fx.stat, List.mem_cons] at hp ⊢
    grind
  · have s : Sub rest ((d1, tup #[.ref d2, .int (i + 1) tok, .ref X.na]) :: (d2, tup #[.ref t, vl]) :: rest) := sub_tail (sub_tail sub_refl)
    refine ⟨(d0, tup #[vl, .int i ta, .ref X.na]) :: Can X w (its.push (.ref d1)) (ep + 1) kk ks ov lits lep ((d1, tup #[.ref d2, .int (i + 1) tok, .ref X.na]) :: (d2, tup #[.ref t, vl]) :: rest), ?_, .inr ⟨l, i, d0, vl, ta, _, _, ov, kvs, lits, lep, _, rfl, rfl, rfl, rl.up s, ?_, hov, hV, by omega, s, Aps.cons h1 (Aps.cons h2 A), ab_apart h0⟩⟩
    · intro p hp
      simp only [Can, Fx.stat, List.mem_cons] at hp ⊢
      grind
    · simp only [pls, if_pos hm]
      exact .cons (.head _) (.cons (.tail _ (.head _)) (.arb (s _ ht)) (rl.up s)) (rp.up s)
theorem any_end (St : Steps KK qq) (O : X.Ok) (A : Aps X rest) {j : Int} {k tb : Tok} (hc : (c, tup #[.ref t, vl]) ∈ rest) (ht : (t, tup #[.str (S "end now") k, .ref X.rf, .int j tb]) ∈ rest) (rl : ChR X.rf rest l vl) (rp : PlR X.rf rest (.ref X.na) ps its) (hov : SD w ov kvs) (hV : VR V kvs)
    (hi : 0 ≤ i ∧ i ≤ 100) (hj : 0 ≤ j ∧ j ≤ 100) (hs5 : subj.length ≤ 5) (hsz : lits.size ≤ 9999) :
    LClaim KK qq 20 w mean mg mb 411 (Can X w its ep kk ks ov lits lep rest) [.ref c, .int i ta, .ref X.na, .str subj ts, .ref X.lp, .ref X.hx] (AdvR X w subj (.endn j) l i ps V its ep kk ks ov lits lep rest) := by
  have o1 := O.o1; have o2 := O.o2; have o3 := O.o3; have o4 := O.o4; have o5 := O.o5; have o6 := O.o6; have o7 := O.o7
  have hl := hV.len
  have g1 : ∀ p ∈ (X.na, tup #[]) :: rest, p.1 ≠ X.vx := fun p hp => (List.mem_cons.mp hp).elim (fun e => by rw [e]; exact O.o10) fun h => (A p h).2.2.1
  have g2 : ∀ p ∈ (X.na, tup #[]) :: rest, p.1 ≠ X.lg := fun p hp => (List.mem_cons.mp hp).elim (fun e => by rw [e]; exact O.o11) fun h => (A p h).2.2.2
  refine (St.adv_end w mean mg mb c t X.lp X.dx X.hx X.rf X.rdx (lst its ep) ov vl (.ref X.na) k ts ta tb X.r1 X.r2 X.r3 X.r4 X.r5 subj i j lits lep X.rlep X.vx X.rl X.lg X.a1 X.a2 X.a3 X.a4 X.a5 X.a6 X.a7 X.a8 ks kk ((X.na, tup #[]) :: rest) kvs
    hi hj hs5 hov (by rw [sizeLine_eq]; omega) (by rw [sizeLine_eq]; omega) (neN (by omega)) (neN (by omega)) (neN (by omega)) (neN (by omega)) (neN (by omega)) (neN (by omega)) (neN (by omega)) (neN (by omega)) (neN (by omega)) (neN (by omega)) (neN (by omega)) (neN (by omega)) (neN (by omega))
    (A _ hc).2.2.1 (A _ hc).2.2.2 (A _ ht).2.2.1 (A _ ht).2.2.2 g1 g2).use (end_sub hc ht) ?_
  rintro r n' ⟨d0, ov', tok, lits', lep', rfl, hov', hls, ⟨j1, x1, j2, x2, rfl⟩, h0⟩
  refine ⟨(d0, tup #[vl, .int i ta, .ref X.na]) :: Can X w its ep kk ks ov' lits' lep' rest, ?_, .inr ⟨l, i, d0, vl, ta, its, ep, ov', _, lits', lep', _, rfl, rfl, rfl, rl, rp, hov', hV.put _ _, by omega, sub_refl, A, ab_apart h0⟩⟩
  intro p hp
  simp only [Can, Fx.stat, List.mem_cons] at hp ⊢
  grind

theorem adv_any (St : Steps KK qq) (O : X.Ok) (A : Aps X rest) {n : Nd} {vn : Value} (hc : (c, tup #[vn, vl]) ∈ rest) (rn : NdR X.rf rest n vn) (rl : ChR X.rf rest l vl) (rp : PlR X.rf rest (.ref X.na) ps its) (hov : SD w ov kvs) (hV : VR V kvs)
    (hg : okAt n i ps = true) (hs5 : subj.length ≤ 5) (hsz : lits.size ≤ 9999) :
    LClaim KK qq 20 w mean mg mb 411 (Can X w its ep kk ks ov lits lep rest) [.ref c, .int i ta, .ref X.na, .str subj ts, .ref X.lp, .ref X.hx] (AdvR X w subj n l i ps V its ep kk ks ov lits lep rest) := by
  simp only [okAt, Bool.and_eq_true, decide_eq_true_eq] at hg
  obtain ⟨⟨⟨ho, h0⟩, h1⟩, hp⟩ := hg
  cases rn with
  | chars h => exact any_chars St A hc h rl rp hov hV ⟨h0, h1⟩ (by simpa [okN] using ho) hs5
  | alt h a b => exact any_alt St O A hc h a b rl rp hov hV hp
  | cat h a b => exact any_cat St O A hc h a b rl rp hov hV
  | tab h => exact any_tab St A hc h rl rp hov hV ⟨h0, h1⟩ (by simpa [okN] using ho) hs5
  | arb h => exact any_arb St O A hc h rl rp hov hV ⟨h0, h1⟩ hs5 hp
  | now h a => exact any_now St O A hc h a rl rp hov hV
  | endn h => exact any_end St O A hc h rl rp hov hV ⟨h0, h1⟩ (by simpa [okN] using ho) hs5 hsz
end
end Mine
end
section
open PySem PySem.W PyProof.Rows
namespace Mine
variable {KK : PySem.Params → Frag} {qq : Program}


theorem eq_tup_str {prog : Program} {w : World} {A : Around} {E : Value → Shared → Prop} {s : Shared} {h₀ : Heap} {L l : Addr} {news : Led} {items : Array Value} {b : SStr} {u : Tok} {Q : Value → Shared → Prop} (N : News h₀ L s.heap news) (hm : (l, tup items) ∈ news) (hu : A.units < cLine) (h : Q (.bool false) s) :
    wpAny (model prog w) A (compareOp .Eq (.ref l) (.str b u)) Q E s :=
  cmp_ofEq (PySem.SeqAt.RcAt.tuple_str b u ⟨_, (N _ hm).1, rfl, _, rfl⟩ hu prog w E Q h)
theorem pop_push {prog : Program} {w : World} {A : Around} {E : Value → Shared → Prop} {s : Shared} {h₀ : Heap} {L D : Addr} {m : SStr → Option Value} {news news' : Led} {xs : Array Value} {y : Value} {n : Nat} {Q : Value → Shared → Prop} (F : Fr h₀ L s.heap m) (N : News h₀ L s.heap news)
    (U : Upd D (PySem.W.listOf (xs.push y) n) (PySem.W.listOf xs (n + 1)) news news') (hz : xs.size + 1 ≤ sizeLine) (h : ∀ h', Fr h₀ L h' m → News h₀ L h' news' → Q y { s with heap := h' }) : wpAny (model prog w) A (call (.builtin "list.pop") [.ref D]) Q E s := by
  refine kl_pop F N (p := xs.toList) (y := y) ?_ (by simpa using U) (by simpa using hz) h
  have := kpa_last y xs.toList
  simpa using this

theorem len_push {prog : Program} {w : World} {A : Around} {E : Value → Shared → Prop} {s : Shared} {h₀ : Heap} {L l : Addr} {news : Led} {xs : Array Value} {y : Value} {n : Nat} {Q : Value → Shared → Prop} (N : News h₀ L s.heap news) (hm : (l, PySem.W.listOf (xs.push y) n) ∈ news) (hz : xs.size + 1 ≤ sizeLine)
    (h : ∀ t tk', Q (.int ((xs.size : Int) + 1) t) { s with toks := tk' }) : wpAny (model prog w) A (call (.builtin "len") [.ref l]) Q E s := by
  refine len_list (News.isList N hm) ?_ ?_
  · rw [sizeLine_eq] at hz; rw [Array.size_push]; omega
  · rw [Array.size_push]
    exact h _ _

theorem LClaim.call {rm : Nat} {w : World} {mean : ExcName → Option Value} {mg mb : SStr → Option Value} {f : Addr} {news : Led} {vs : List Value} {R : Value → Led → Prop} {dp un : Nat} {gd : Option (List Code)} {cn : SStr} {cs : Scope} {a : Addr} {ccd : Value} {cl : List (SStr × Addr)} {outer : List Env} {A₀ : Around} {base h₀ : Heap} {L : Addr} {m : SStr → Option Value} {s : Shared} {Q E : Value → Shared → Prop}
    (F : Fr h₀ L s.heap m) (B : Below A₀ base outer h₀) (X : (KK w.params).In h₀) (T : Top qq (looseW qq [S "SnobolError", S "plain_count"]) mean mg mb h₀) (hk : cs.kind = .function)
    (C : LClaim KK qq rm w mean mg mb f news vs R) (N : News h₀ L s.heap news)
    (hd : dp + rm < recursionLimit) (hu : un + 10 * rm < cLine)
    (ret : ∀ (r : Value) (news' : Led) (h' : Heap) (tk' : Nat), R r news' → Fr h₀ L h' m → News h₀ L h' news' → Q r { s with heap := h', toks := tk' }) :
    wpAny (model PySem.Challenge.rw_tk0109_01.row.prog w) (ktrTop dp un gd cn cs L a ccd cl outer) (call (.ref f) vs) Q E s :=
  C _ _ _ _ _ _ _ _ _ _ _ _ _ _ _ _ _ B F X N T hk hd hu ret

theorem host_apart {X : Fx} {w : World} {its : Array Value} {ep : Nat} {ov : Obj} {lits : Array Value} {lep : Nat} {rest : Led} (O : X.Ok) (A : Aps X rest) :
    ∀ p ∈ ((X.lp, lst its ep) :: (X.vx, ov) :: (X.lg, lst lits lep) :: (X.rl, lst #[] X.rlep) :: (X.rf, instObj 138 X.rdx) :: (X.rdx, refD w X.r1 X.r2 X.r3 X.r4 X.r5) :: (X.na, tup #[]) :: rest), p.1 ≠ X.dx := by
  have o1 := O.o1; have o2 := O.o2; have o3 := O.o3; have o4 := O.o4; have o5 := O.o5; have o6 := O.o6; have o7 := O.o7
  intro p hp
  simp only [List.mem_cons] at hp
  rcases hp with rfl | rfl | rfl | rfl | rfl | rfl | rfl | h
  · exact neN (by dsimp only; omega)
  · exact neN (by dsimp only; omega)
  · exact neN (by dsimp only; omega)
  · exact neN (by dsimp only; omega)
  · exact neN (by dsimp only; omega)
  · exact neN (by dsimp only; omega)
  · exact O.o9
  · exact (A p h).2.1
theorem step_can {X : Fx} {w : World} {mean : ExcName → Option Value} {mg mb : SStr → Option Value} {its : Array Value} {ep : Nat} {kk : Int} {ks : Tok} {ov : Obj} {lits : Array Value} {lep : Nat} {rest : Led} (St : Steps KK qq) (O : X.Ok) (A : Aps X rest) (h0 : 0 ≤ kk) (h1 : kk < 9999) :
    LClaim KK qq 20 w mean mg mb 226 (Can X w its ep kk ks ov lits lep rest) [.ref X.hx] (fun r news' => ∃ ks', r = .none ∧ news' = Can X w its ep (kk + 1) ks' ov lits lep rest) := by
  refine (St.host_step w mean mg mb X.hx X.dx X.vx X.rl X.lg X.a1 X.a2 X.a3 X.a4 X.a5 X.a6 X.a7 X.a8 ks kk _ (neN (Nat.ne_of_gt O.o5)) (host_apart (its := its) (ep := ep) (ov := ov) (lits := lits) (lep := lep) (w := w) O A) h0 h1).use ?_ ?_
  · intro p hp
    simp only [Can, Fx.stat, List.mem_cons] at hp ⊢
    grind
  · rintro r a ⟨ks', rfl, rfl⟩
    refine ⟨_, ?_, ks', rfl, rfl⟩
    intro p hp
    simp only [Can, Fx.stat, List.mem_cons] at hp ⊢
    grind

structure StI where
  cv : Value
  i : Int
  ti : Tok
  its : Array Value
  ep : Nat
  kk : Int
  ks : Tok
  ov : Obj
  lits : Array Value
  lep : Nat
  rest : Led
  l : List Nd
  ps : List (List Nd × Int)
  V : Option SStr
  kvs : List (SStr × Value)
  f : Nat
structure InvI (X : Fx) (w : World) (subj : SStr) (res : Option Int × Option SStr) (f₀ : Nat) (r₀ : Led) (c : StI) : Prop where
  ch : ChR X.rf c.rest c.l c.cv
  pl : PlR X.rf c.rest (.ref X.na) c.ps c.its
  sd : SD w c.ov c.kvs
  vr : VR c.V c.kvs
  go : run subj c.f c.l c.i c.ps c.V = some res
  k0 : 0 ≤ c.kk
  k1 : c.kk + c.f ≤ 9999
  ls : (c.lits.size : Int) ≤ c.kk
  ap : Aps X c.rest
  ff : c.f ≤ f₀
  up : Sub r₀ c.rest
abbrev StI.led (X : Fx) (w : World) (c : StI) : Led := Can X w c.its c.ep c.kk c.ks c.ov c.lits c.lep c.rest
abbrev StI.bind (X : Fx) (c : StI) : List (SStr × Value) := [(S "chain", c.cv), (S "at", .int c.i c.ti), (S "named", .ref X.na)]
structure StO where
  its : Array Value
  ep : Nat
  kk : Int
  ks : Tok
  ov : Obj
  lits : Array Value
  lep : Nat
  rest : Led
  ps : List (List Nd × Int)
  V : Option SStr
  kvs : List (SStr × Value)
  f : Nat
structure InvO (X : Fx) (w : World) (subj : SStr) (res : Option Int × Option SStr) (r₀ : Led) (c : StO) : Prop where
  pl : PlR X.rf c.rest (.ref X.na) c.ps c.its
  sd : SD w c.ov c.kvs
  vr : VR c.V c.kvs
  go : popRun subj c.f c.ps c.V = some res
  k0 : 0 ≤ c.kk
  k1 : c.kk + c.f ≤ 9999
  ls : (c.lits.size : Int) ≤ c.kk
  ap : Aps X c.rest
  bd : c.ps.length ≤ 50
  up : Sub r₀ c.rest
abbrev StO.led (X : Fx) (w : World) (c : StO) : Led := Can X w c.its c.ep c.kk c.ks c.ov c.lits c.lep c.rest

section
variable {w : World} {A : Around} {E : Value → Shared → Prop} {Q : Flow → Shared → Prop} {s : Shared} {env : Env} {h₀ : Heap} {L : Addr}
theorem outer_while {test : PySem.Expr} {body : List Stmt} {pos : Pos} {m₀ : SStr → Option Value} {X : Fx} (_O : X.Ok) (subj : SStr) (res : Option Int × Option SStr) (r₀ : Led) (c₀ : StO)
    (F : Fr h₀ L s.heap m₀) (N : News h₀ L s.heap (c₀.led X w)) (hp : InvO X w subj res r₀ c₀)
    (turn : ∀ (c : StO) (u : SStr → Option Value) h tk, InvO X w subj res r₀ c → Fr h₀ L h (kstB (fun z => if [S "way", S "chain", S "at", S "named"].contains z then u z else m₀ z) []) → News h₀ L h (c.led X w) →
      wpAny (model PG w) A (isTrue test env (eval test env)) (fun b s₂ =>
        if b = true then wpAny (model PG w) A (execs body env) (KswPost h₀ L s (StO.led X w) (fun _ => []) (fun _ => True) [S "way", S "chain", S "at", S "named"] m₀ (InvO X w subj res r₀) StO.f Q c) E s₂ else Q .next s₂) E { s with heap := h, toks := tk })
    (hE : PassesOwn (model PG w) A env E := by passes_own) :
    wpAny (model PG w) A (exec (.While test body [] pos) env) Q E s :=
  ksw_while (StO.led X w) (fun _ => []) (fun _ => True) [S "way", S "chain", S "at", S "named"] (InvO X w subj res r₀) StO.f c₀ F N trivial (fun _ h => nomatch h) hp (fun c u h tk _ hp F N => turn c u h tk hp F N) hE
theorem inner_while {test : PySem.Expr} {body : List Stmt} {pos : Pos} {m₀ : SStr → Option Value} {X : Fx} (_O : X.Ok) (subj : SStr) (res : Option Int × Option SStr) (f₀ : Nat) (r₀ : Led) (c₀ : StI)
    (F : Fr h₀ L s.heap m₀) (N : News h₀ L s.heap (c₀.led X w)) (h1 : m₀ (S "chain") = some c₀.cv) (h2 : m₀ (S "at") = some (.int c₀.i c₀.ti)) (h3 : m₀ (S "named") = some (.ref X.na)) (hp : InvI X w subj res f₀ r₀ c₀)
    (turn : ∀ (c : StI) (u : SStr → Option Value) h tk, InvI X w subj res f₀ r₀ c → Fr h₀ L h (kstB (fun z => if [S "way"].contains z then u z else m₀ z) (c.bind X)) → News h₀ L h (c.led X w) →
      wpAny (model PG w) A (isTrue test env (eval test env)) (fun b s₂ =>
        if b = true then wpAny (model PG w) A (execs body env) (KswPost h₀ L s (StI.led X w) (StI.bind X) (fun _ => True) [S "way"] m₀ (InvI X w subj res f₀ r₀) StI.f Q c) E s₂ else Q .next s₂) E { s with heap := h, toks := tk })
    (hE : PassesOwn (model PG w) A env E := by passes_own) :
    wpAny (model PG w) A (exec (.While test body [] pos) env) Q E s :=
  ksw_while (StI.led X w) (StI.bind X) (fun _ => True) [S "way"] (InvI X w subj res f₀ r₀) StI.f c₀ F N trivial (fun p hp => by
    simp only [StI.bind, List.mem_cons, List.not_mem_nil, or_false] at hp
    rcases hp with rfl | rfl | rfl
    · exact h1
    · exact h2
    · exact h3) hp (fun c u h tk _ hp F N => turn c u h tk hp F N) hE
end
end Mine
end
section
open PySem PySem.W PyProof.Rows
namespace Mine
variable {KK : PySem.Params → Frag} {qq : Program}

def Stop (P : Prop) : Prop := P
theorem stop_here {P : Prop} (h : Stop P) : P := h
theorem news_add {h₀ h : Heap} {L : Addr} {news : Led} {p : Addr × Obj} (N : News h₀ L h news) (hp : p ∈ news) : News h₀ L h (p :: news) := fun q hq => (List.mem_cons.mp hq).elim (fun e => e ▸ N p hp) (N q)
theorem news_can {h₀ h : Heap} {L : Addr} {X : Fx} {w : World} {its : Array Value} {ep : Nat} {kk : Int} {ks : Tok} {ov : Obj} {lits : Array Value} {lep : Nat} {rest : Led} {p : Addr × Obj} (N : News h₀ L h (Can X w its ep kk ks ov lits lep rest)) (hp : p ∈ rest) : News h₀ L h (p :: Can X w its ep kk ks ov lits lep rest) :=
  news_add N (by simp [Can, Fx.stat, hp])

section
variable {w : World} {vx rl lg hx dx rf rdx tn lp t1 t2 na : Addr} {a1 a2 a3 a4 a5 a6 a7 a8 ks r1 r2 r3 r4 r5 tb : Tok} {rlep lep : Nat} {ov : Obj} {subj : SStr} {rest : Led} {top : Nd} {f : Nat} {res : Option Int × Option SStr}
theorem tried_start {h₀ h : Heap} {L : Addr} (N : News h₀ L h ((lp, lst #[.ref t2] 0) :: (t2, tup #[.ref t1, .int 0 tb, .ref na]) :: (na, tup #[]) :: (t1, tup #[.ref tn, .none]) :: (dx, hostD w vx rl lg a1 a2 a3 a4 a5 a6 a7 a8 0 ks) :: (vx, ov) :: (lg, lst #[] lep) :: (hx, instObj 229 dx) :: (rl, lst #[] rlep) :: (rf, instObj 138 rdx) :: (rdx, refD w r1 r2 r3 r4 r5) :: rest)) :
    News h₀ L h (StO.led ⟨lp, dx, vx, lg, hx, rl, rf, rdx, na, a1, a2, a3, a4, a5, a6, a7, a8, r1, r2, r3, r4, r5, rlep⟩ w ⟨#[.ref t2], 0, 0, ks, ov, #[], lep, (t2, tup #[.ref t1, .int 0 tb, .ref na]) :: (t1, tup #[.ref tn, .none]) :: rest, [([top], 0)], none, [], f⟩) := by
  refine cb_drop N ?_
  intro p hp
  simp only [StO.led, Can, Fx.stat, Fx.host, List.mem_cons] at hp ⊢
  grind
theorem tried_inv (o1 : NL rdx rf) (o2 : NL rf vx) (o3 : NL vx rl) (o4 : NL rl dx) (o5 : NL dx hx) (o6 : NL hx lg) (hA : ∀ p ∈ rest, p.1 ≠ dx ∧ p.1 ≠ vx ∧ p.1 ≠ lg)
    (hn : NdR rf rest top (.ref tn)) (hov : SD w ov []) (hrun : run subj f [top] 0 [] none = some res) (hf : f ≤ 9000)
    (hl : NL t2 lp ∧ NL na lp ∧ NL t1 lp ∧ NL dx lp ∧ NL vx lp ∧ NL lg lp ∧ NL hx lp ∧ NL rl lp ∧ NL rf lp ∧ NL rdx lp ∧ AllLt lp rest)
    (h2 : NL na t2 ∧ NL t1 t2 ∧ NL dx t2 ∧ NL vx t2 ∧ NL lg t2 ∧ NL hx t2 ∧ NL rl t2 ∧ NL rf t2 ∧ NL rdx t2 ∧ AllLt t2 rest)
    (hna : NL t1 na ∧ NL dx na ∧ NL vx na ∧ NL lg na ∧ NL hx na ∧ NL rl na ∧ NL rf na ∧ NL rdx na ∧ AllLt na rest)
    (h1 : NL dx t1 ∧ NL vx t1 ∧ NL lg t1 ∧ NL hx t1 ∧ NL rl t1 ∧ NL rf t1 ∧ NL rdx t1 ∧ AllLt t1 rest) :
    Fx.Ok ⟨lp, dx, vx, lg, hx, rl, rf, rdx, na, a1, a2, a3, a4, a5, a6, a7, a8, r1, r2, r3, r4, r5, rlep⟩ ∧
    InvO ⟨lp, dx, vx, lg, hx, rl, rf, rdx, na, a1, a2, a3, a4, a5, a6, a7, a8, r1, r2, r3, r4, r5, rlep⟩ w subj res rest ⟨#[.ref t2], 0, 0, ks, ov, #[], lep, (t2, tup #[.ref t1, .int 0 tb, .ref na]) :: (t1, tup #[.ref tn, .none]) :: rest, [([top], 0)], none, [], f⟩ := by
  have hal := hl.2.2.2.2.2.2.2.2.2.2
  refine ⟨⟨o1, o2, o3, o4, o5, o6, by dsimp only; omega, neN (by dsimp only; omega), neN (by dsimp only; omega), neN (by dsimp only; omega), neN (by dsimp only; omega)⟩,
    ⟨.cons (its := #[]) (.head _) (.cons (.tail _ (.head _)) (hn.up (sub_tail (sub_tail sub_refl))) .nil) .nil, hov, rfl, hrun, by simp, by simp; omega, by simp, ?_, by simp, sub_tail (sub_tail sub_refl)⟩⟩
  intro p hp
  rcases List.mem_cons.mp hp with rfl | hp
  · exact ⟨neN (by dsimp only; omega), neN (by dsimp only; omega), neN (by dsimp only; omega), neN (by dsimp only; omega)⟩
  rcases List.mem_cons.mp hp with rfl | hp
  · exact ⟨neN (by dsimp only; omega), neN (by dsimp only; omega), neN (by dsimp only; omega), neN (by dsimp only; omega)⟩
  · exact ⟨neN (Nat.ne_of_lt (ktn_ltOf hal p hp)), (hA p hp).1, (hA p hp).2.1, (hA p hp).2.2⟩
end
theorem run_pos {subj : SStr} {f : Nat} {l : List Nd} {i : Int} {ps V res} (h : run subj f l i ps V = some res) : 0 < f := by
  cases f with
  | zero => cases h
  | succ f => exact Nat.succ_pos _
theorem run_nil {subj : SStr} {f : Nat} {i : Int} {ps V res} (h : run subj f [] i ps V = some res) : res = (some i, V) := by
  cases f with
  | zero => cases h
  | succ f => cases h; rfl
theorem run_ok {subj : SStr} {f : Nat} {n : Nd} {l : List Nd} {i : Int} {ps V res} (h : run subj f (n :: l) i ps V = some res) : okAt n i ps = true := by
  cases f with
  | zero => cases h
  | succ f =>
    unfold run at h
    by_cases g : okAt n i ps = true
    · exact g
    · rw [if_neg g] at h; cases h
theorem run_some {subj : SStr} {f : Nat} {n : Nd} {l l' : List Nd} {i i' : Int} {ps V res} (h : run subj f (n :: l) i ps V = some res) (hs : stp subj n l i = some (l', i')) : run subj (f - 1) l' i' (pls subj n l i ps) (vls subj n i V) = some res := by
  have g := run_ok h
  cases f with
  | zero => cases h
  | succ f => unfold run at h; rw [if_pos g, hs] at h; exact h
theorem run_none {subj : SStr} {f : Nat} {n : Nd} {l : List Nd} {i : Int} {ps V res} (h : run subj f (n :: l) i ps V = some res) (hs : stp subj n l i = none) : popRun subj (f - 1) ps V = some res := by
  have g := run_ok h
  cases f with
  | zero => cases h
  | succ f =>
    unfold run at h
    rw [if_pos g, hs] at h
    cases ps with
    | nil => exact h
    | cons p ps => exact h
theorem okAt_len {n : Nd} {i : Int} {ps : List (List Nd × Int)} (h : okAt n i ps = true) : ps.length ≤ 50 := by
  simp only [okAt, Bool.and_eq_true, decide_eq_true_eq] at h
  exact h.2
theorem step_at {X : Fx} {w : World} {mean : ExcName → Option Value} {mg mb : SStr → Option Value} {its : Array Value} {ep : Nat} {kk : Int} {ks : Tok} {ov : Obj} {lits : Array Value} {lep : Nat} {rest : Led} {vs : List Value} (St : Steps KK qq) (O : X.Ok) (A : Aps X rest) (h0 : 0 ≤ kk) (h1 : kk < 9999) (e : vs = [.ref X.hx]) :
    LClaim KK qq 20 w mean mg mb 226 (Can X w its ep kk ks ov lits lep rest) vs (fun r news' => ∃ ks', r = .none ∧ news' = Can X w its ep (kk + 1) ks' ov lits lep rest) := by
  subst e
  exact step_can St O A h0 h1
theorem any_at {X : Fx} {w : World} {mean : ExcName → Option Value} {mg mb : SStr → Option Value} {subj : SStr} {l : List Nd} {i : Int} {ps : List (List Nd × Int)} {V : Option SStr} {its : Array Value} {ep : Nat} {kk : Int} {ks ta ts : Tok} {ov : Obj} {kvs : List (SStr × Value)} {lits : Array Value} {lep : Nat} {rest : Led} {c : Addr} {vl : Value} {vs : List Value}
    (St : Steps KK qq) (O : X.Ok) (A : Aps X rest) {n : Nd} {vn : Value} (hc : (c, tup #[vn, vl]) ∈ rest) (rn : NdR X.rf rest n vn) (rl : ChR X.rf rest l vl) (rp : PlR X.rf rest (.ref X.na) ps its) (hov : SD w ov kvs) (hV : VR V kvs)
    (hg : okAt n i ps = true) (hs5 : subj.length ≤ 5) (hsz : lits.size ≤ 9999) (e : vs = [.ref c, .int i ta, .ref X.na, .str subj ts, .ref X.lp, .ref X.hx]) :
    LClaim KK qq 20 w mean mg mb 411 (Can X w its ep kk ks ov lits lep rest) vs (AdvR X w subj n l i ps V its ep kk ks ov lits lep rest) := by
  subst e
  exact adv_any St O A hc rn rl rp hov hV hg hs5 hsz
/-- the last turn of a match: what tried hands back -/
def TriedR (w : World) (vx rl lg hx dx : Addr) (a1 a2 a3 a4 a5 a6 a7 a8 : Tok) (res : Option Int × Option SStr) (rest : Led) (r : Value) (news : Led) : Prop :=
  (res.1 = none ∧ r = .none ∧ Sub rest news) ∨
  (∃ i d dl de tok kk ks ov kvs lits lep, res.1 = some i ∧ r = .ref d ∧ SD w ov kvs ∧ VR res.2 kvs ∧
    Sub ((d, tup #[.int i tok, .ref dl]) :: (dl, lst #[] de) :: (dx, hostD w vx rl lg a1 a2 a3 a4 a5 a6 a7 a8 kk ks) :: (vx, ov) :: (lg, lst lits lep) :: (hx, instObj 229 dx) :: rest) news)
end Mine
end
section
open PySem PySem.W PyProof.Rows
namespace Mine
def tried_claim_C (KK : PySem.Params → Frag) (qq : Program) : Prop := ∀ (w : World) (mean : ExcName → Option Value) (mg mb : SStr → Option Value) (vx rl lg hx dx rf rdx tn : Addr) (a1 a2 a3 a4 a5 a6 a7 a8 ks r1 r2 r3 r4 r5 ts tb : Tok) (rlep lep : Nat) (ov : Obj) (subj : SStr) (rest : Led) (top : Nd) (f : Nat) (res : Option Int × Option SStr)    (o1 : NL rdx rf) (o2 : NL rf vx) (o3 : NL vx rl) (o4 : NL rl dx) (o5 : NL dx hx) (o6 : NL hx lg) (hA : ∀ p ∈ rest, p.1 ≠ dx ∧ p.1 ≠ vx ∧ p.1 ≠ lg)    (hn : NdR rf rest top (.ref tn)) (hov : SD w ov []) (hs5 : subj.length ≤ 5) (hrun : run subj f [top] 0 [] none = some res) (hf : f ≤ 9000),
   LClaim KK qq 30 w mean mg mb 404 ((dx, hostD w vx rl lg a1 a2 a3 a4 a5 a6 a7 a8 0 ks) :: (vx, ov) :: (lg, lst #[] lep) :: (hx, instObj 229 dx) :: (rl, lst #[] rlep) :: (rf, instObj 138 rdx) :: (rdx, refD w r1 r2 r3 r4 r5) :: rest) [.ref tn, .str subj ts, .int 0 tb, .ref hx]
     (TriedR w vx rl lg hx dx a1 a2 a3 a4 a5 a6 a7 a8 res rest)
end Mine
end
section
open PySem PySem.W PyProof.Rows
namespace Mine
variable {KK : PySem.Params → Frag} {qq : Program}

def topN (place : Int) : Nd := .cat (.now (.cat (.tab place) .arb)) (.alt (.alt (.chars (S "aA")) (.chars (S "Aa"))) (.alt (.chars (S "bB")) (.chars (S "Bb"))))
section
variable {w : World} {mean : ExcName → Option Value} {mg mb : SStr → Option Value} {vx rl lg hx dx rf rdx tn : Addr} {a1 a2 a3 a4 a5 a6 a7 a8 ks r1 r2 r3 r4 r5 ts tb : Tok} {rlep lep : Nat} {ov : Obj} {subj : SStr} {rest : Led} {top : Nd} {f : Nat} {res : Option Int × Option SStr}
theorem tried_at {vs : List Value} (Tr : tried_claim_C KK qq) (o1 : NL rdx rf) (o2 : NL rf vx) (o3 : NL vx rl) (o4 : NL rl dx) (o5 : NL dx hx) (o6 : NL hx lg) (hA : ∀ p ∈ rest, p.1 ≠ dx ∧ p.1 ≠ vx ∧ p.1 ≠ lg)
   (hn : NdR rf rest top (.ref tn)) (hov : SD w ov []) (hs5 : subj.length ≤ 5) (hrun : run subj f [top] 0 [] none = some res) (hf : f ≤ 9000) (e : vs = [.ref tn, .str subj ts, .int 0 tb, .ref hx]) :
   LClaim KK qq 30 w mean mg mb 404 ((dx, hostD w vx rl lg a1 a2 a3 a4 a5 a6 a7 a8 0 ks) :: (vx, ov) :: (lg, lst #[] lep) :: (hx, instObj 229 dx) :: (rl, lst #[] rlep) :: (rf, instObj 138 rdx) :: (rdx, refD w r1 r2 r3 r4 r5) :: rest) vs
     (TriedR w vx rl lg hx dx a1 a2 a3 a4 a5 a6 a7 a8 res rest) := by
  subst e
  exact Tr w mean mg mb vx rl lg hx dx rf rdx tn a1 a2 a3 a4 a5 a6 a7 a8 ks r1 r2 r3 r4 r5 ts tb rlep lep ov subj rest top f res o1 o2 o3 o4 o5 o6 hA hn hov hs5 hrun hf
theorem less_start {g h : Heap} {L it nt nw : Addr} {oi ont onw : Obj} (N : News g L h ((it, oi) :: (lg, lst #[] lep) :: (hx, instObj 229 dx) :: (dx, hostD w vx rl lg a1 a2 a3 a4 a5 a6 a7 a8 0 ks) :: (rl, lst #[] rlep) :: (vx, ov) :: (nt, ont) :: (nw, onw) :: (rf, instObj 138 rdx) :: (rdx, refD w r1 r2 r3 r4 r5) :: rest)) :
    News g L h ((dx, hostD w vx rl lg a1 a2 a3 a4 a5 a6 a7 a8 0 ks) :: (vx, ov) :: (lg, lst #[] lep) :: (hx, instObj 229 dx) :: (rl, lst #[] rlep) :: (rf, instObj 138 rdx) :: (rdx, refD w r1 r2 r3 r4 r5) :: (it, oi) :: (nt, ont) :: (nw, onw) :: rest) := by
  refine cb_drop N ?_
  intro p hp
  simp only [List.mem_cons] at hp ⊢
  grind
end
def LessR (word : SStr) (res : Option Int × Option SStr) (news : Led) (r : Value) (news' : Led) : Prop :=
  Sub news news' ∧ ((res.1 = none ∧ r = .none) ∨ ∃ i p tok, res = (some i, some p) ∧ r = .str (Txt.slice word none (some 0) ++ p ++ Txt.slice word (some i) none) tok)
end Mine
end
section
open PySem PySem.W PyProof.Rows
namespace Mine
def less_claim_C (KK : PySem.Params → Frag) (qq : Program) : Prop := ∀ (w : World) (mean : ExcName → Option Value) (mg mb : SStr → Option Value) (word : SStr) (place : Int) (ts tp : Tok) (news : Led) (res : Option Int × Option SStr) (hw : word.length ≤ 5) (hrun : run word 200 [topN place] 0 [] none = some res)    (hres : res.1 = none ∨ ∃ i p, res = (some i, some p) ∧ 0 ≤ i ∧ i ≤ 100 ∧ p.length ≤ 5),
   LClaim KK qq 60 w mean mg mb 453 news [.str word ts, .int place tp] (LessR word res news)
end Mine
end
section
open PySem PySem.W PyProof.Rows
namespace Mine
variable {KK : PySem.Params → Frag} {qq : Program}

abbrev Quad := Int × Int × Int × Int
def gstep (g : Quad) (n : Int) : Quad :=
  let more : Int := if n = 97 ∨ n = 98 then 2 else -2
  if n = 97 ∨ n = 65 then (g.1, g.2.1 + more * g.1, g.2.2.1, g.2.2.2 + more * g.2.2.1) else (g.1 + more * g.2.1, g.2.1, g.2.2.1 + more * g.2.2.2, g.2.2.2)
def gridF (cs : List Int) : Quad := cs.foldl gstep (1, 0, 0, 1)
theorem gridF_snoc (cs : List Int) (n : Int) : gridF (cs ++ [n]) = gstep (gridF cs) n := by simp [gridF]
def Bd (k : Int) (g : Quad) : Prop := (-k ≤ g.1 ∧ g.1 ≤ k) ∧ (-k ≤ g.2.1 ∧ g.2.1 ≤ k) ∧ (-k ≤ g.2.2.1 ∧ g.2.2.1 ≤ k) ∧ (-k ≤ g.2.2.2 ∧ g.2.2.2 ≤ k)
theorem bd_step {k : Int} {g : Quad} (n : Int) (h : Bd k g) (h0 : 0 ≤ k) : Bd (3 * k) (gstep g n) := by
  obtain ⟨⟨a1, a2⟩, ⟨b1, b2⟩, ⟨c1, c2⟩, ⟨d1, d2⟩⟩ := h
  unfold Bd gstep
  dsimp only
  split <;> split <;> dsimp only <;> refine ⟨⟨?_, ?_⟩, ⟨?_, ?_⟩, ⟨?_, ?_⟩, ⟨?_, ?_⟩⟩ <;> omega
theorem bd_mono {k k' : Int} {g : Quad} (h : Bd k g) (hk : k ≤ k') : Bd k' g := by
  unfold Bd at *
  omega
theorem bd_fold : ∀ (m : Nat) (cs : List Int) (g : Quad) (k : Int), cs.length ≤ m → 0 ≤ k → Bd k g → Bd (3 ^ m * k) (cs.foldl gstep g)
  | m, [], g, k, _, h0, h => bd_mono h (by
      have h1 : (1 : Int) ≤ 3 ^ m := Int.pow_pos (by decide)
      have := Int.mul_le_mul_of_nonneg_right h1 h0
      omega)
  | 0, c :: cs, _, _, hl, _, _ => by simp at hl
  | m + 1, c :: cs, g, k, hl, h0, h => by
      have := bd_fold m cs (gstep g c) (3 * k) (by simpa using hl) (by omega) (bd_step c h h0)
      rw [Int.pow_succ, Int.mul_assoc]
      exact this
theorem grid_bd (cs : List Int) (h : cs.length ≤ 5) : Bd 243 (gridF cs) := by
  have := bd_fold 5 cs (1, 0, 0, 1) 1 h (by decide) ⟨⟨by decide, by decide⟩, ⟨by decide, by decide⟩, ⟨by decide, by decide⟩, ⟨by decide, by decide⟩⟩
  exact bd_mono this (by decide)
structure StG where
  p : Int
  q : Int
  r : Int
  s : Int
  tp : Tok
  tq : Tok
  tr : Tok
  ts : Tok
abbrev StG.bind (c : StG) : List (SStr × Value) := [(S "p", .int c.p c.tp), (S "q", .int c.q c.tq), (S "r", .int c.r c.tr), (S "s", .int c.s c.ts)]
theorem ab_mem {n : Nat} : n ∈ (S "ab").cps.toList ↔ n = 97 ∨ n = 98 := by
  rw [show (S "ab").cps.toList = [97, 98] from by decide +kernel]; simp
theorem aA_mem {n : Nat} : n ∈ (S "aA").cps.toList ↔ n = 97 ∨ n = 65 := by
  rw [show (S "aA").cps.toList = [97, 65] from by decide +kernel]; simp
theorem gs_tt {p q r s : Int} {n : Nat} (h1 : n ∈ (S "ab").cps.toList) (h2 : n ∈ (S "aA").cps.toList) : (p, q + 2 * p, r, s + 2 * r) = gstep (p, q, r, s) n := by
  rw [ab_mem] at h1; rw [aA_mem] at h2
  simp only [gstep]; rw [if_pos (show ((n : Int) = 97 ∨ (n : Int) = 98) from by omega), if_pos (show ((n : Int) = 97 ∨ (n : Int) = 65) from by omega)]
theorem gs_tf {p q r s : Int} {n : Nat} (h1 : n ∈ (S "ab").cps.toList) (h2 : ¬ n ∈ (S "aA").cps.toList) : (p + 2 * q, q, r + 2 * s, s) = gstep (p, q, r, s) n := by
  rw [ab_mem] at h1; rw [aA_mem] at h2
  simp only [gstep]; rw [if_pos (show ((n : Int) = 97 ∨ (n : Int) = 98) from by omega), if_neg (show ¬ ((n : Int) = 97 ∨ (n : Int) = 65) from by omega)]
theorem gs_ft {p q r s : Int} {n : Nat} (h1 : ¬ n ∈ (S "ab").cps.toList) (h2 : n ∈ (S "aA").cps.toList) : (p, q + -2 * p, r, s + -2 * r) = gstep (p, q, r, s) n := by
  rw [ab_mem] at h1; rw [aA_mem] at h2
  simp only [gstep]; rw [if_neg (show ¬ ((n : Int) = 97 ∨ (n : Int) = 98) from by omega), if_pos (show ((n : Int) = 97 ∨ (n : Int) = 65) from by omega)]
theorem gs_ff {p q r s : Int} {n : Nat} (h1 : ¬ n ∈ (S "ab").cps.toList) (h2 : ¬ n ∈ (S "aA").cps.toList) : (p + -2 * q, q, r + -2 * s, s) = gstep (p, q, r, s) n := by
  rw [ab_mem] at h1; rw [aA_mem] at h2
  simp only [gstep]; rw [if_neg (show ¬ ((n : Int) = 97 ∨ (n : Int) = 98) from by omega), if_neg (show ¬ ((n : Int) = 97 ∨ (n : Int) = 65) from by omega)]
theorem bind4 {m : SStr → Option Value} {p q r s : Int} {tp tq tr ts : Tok} (h1 : m (S "p") = some (.int p tp)) (h2 : m (S "q") = some (.int q tq)) (h3 : m (S "r") = some (.int r tr)) (h4 : m (S "s") = some (.int s ts)) : ∀ z ∈ StG.bind ⟨p, q, r, s, tp, tq, tr, ts⟩, m z.1 = some z.2 := by
  intro z hz
  simp only [StG.bind, List.mem_cons, List.not_mem_nil, or_false] at hz
  rcases hz with rfl | rfl | rfl | rfl
  · exact h1
  · exact h2
  · exact h3
  · exact h4
def GridR (g : Quad) (news : Led) (r : Value) (news' : Led) : Prop :=
  ∃ d t1 t2 t3 t4, r = .ref d ∧ Sub ((d, tup #[.int g.1 t1, .int g.2.1 t2, .int g.2.2.1 t3, .int g.2.2.2 t4]) :: news) news'
theorem in_code {prog : Program} {w : World} {A : Around} {E : Value → Shared → Prop} {s : Shared} {x : SStr} {n : Nat} {u t : Tok} {cs : List Nat} {Q : Value → Shared → Prop} (hx : x.cps.toList = cs) (h : Q (.bool (decide (n ∈ cs))) s) :
    wpAny (model prog w) A (compareOp .In (.str ⟨#[n]⟩ u) (.str x t)) Q E s := by
  refine PyProof.Rows.in_str ?_
  subst hx
  have e := PySem.StrLaws.found_one x n
  rw [e]
  exact h
end Mine
end
section
open PySem PySem.W PyProof.Rows
namespace Mine
def grid_claim_C (KK : PySem.Params → Frag) (qq : Program) : Prop := ∀ (w : World) (mean : ExcName → Option Value) (mg mb : SStr → Option Value) (word : SStr) (ts : Tok) (news : Led) (hw : word.length ≤ 5),
   LClaim KK qq 20 w mean mg mb 460 news [.str word ts]
     (GridR (gridF (KStt.codes word)) news)
end Mine
end
section
open PySem PySem.W PyProof.Rows
namespace Mine
variable {KK : PySem.Params → Frag} {qq : Program}

def inv2 (c d : Nat) : Bool := (c == 97 && d == 65) || (c == 65 && d == 97) || (c == 98 && d == 66) || (c == 66 && d == 98)
def nfL : List Nat → List Nat
  | [] => []
  | c :: r => match nfL r with
    | [] => [c]
    | d :: t => if inv2 c d then t else c :: d :: t
def nfS (w : SStr) : SStr := ⟨(nfL w.cps.toList).toArray⟩
structure Good (w : SStr) : Prop where
  len : w.length ≤ 5
  abc : ∀ c ∈ w.cps.toList, c = 97 ∨ c = 65 ∨ c = 98 ∨ c = 66
structure Red (w w' : SStr) : Prop where
  good : Good w'
  len : w'.length + 2 = w.length
  grid : gridF (KStt.codes w') = gridF (KStt.codes w)
  nf : nfS w' = nfS w
def PlainLaw : Prop := ∀ (word : SStr) (place : Int), Good word → 0 ≤ place → place ≤ (word.length : Int) → ∃ res, run word 200 [topN place] 0 [] none = some res ∧
  (res.1 = none ∨ ∃ i p, res = (some i, some p) ∧ 0 ≤ i ∧ i ≤ 100 ∧ p.length ≤ 5) ∧ (res.1 = none → place = 0 → nfS word = word) ∧
  (∀ i p, res = (some i, some p) → Red word (Txt.slice word none (some 0) ++ p ++ Txt.slice word (some i) none))
def LessN (word : SStr) (place : Int) (news : Led) (r : Value) (news' : Led) : Prop :=
  Sub news news' ∧ ((r = .none ∧ (place = 0 → nfS word = word)) ∨ ∃ w' tok, r = .str w' tok ∧ Red word w')
theorem less_plain (Ls : less_claim_C KK qq) (PL : PlainLaw) (w : World) (mean : ExcName → Option Value) (mg mb : SStr → Option Value) {word : SStr} {place : Int} {ts tp : Tok} {news : Led} {vs : List Value} (hg : Good word) (h0 : 0 ≤ place) (h1 : place ≤ (word.length : Int)) (e : vs = [.str word ts, .int place tp]) :
    LClaim KK qq 60 w mean mg mb 453 news vs (LessN word place news) := by
  subst e
  obtain ⟨res, hrun, hres, hn, hs⟩ := PL word place hg h0 h1
  refine (Ls w mean mg mb word place ts tp news res hg.len hrun hres).use (fun p hp => hp) ?_
  rintro r a ⟨hsub, h | ⟨i, p, tok, he, hr⟩⟩
  · exact ⟨a, fun p hp => hp, hsub, .inl ⟨h.2, hn h.1⟩⟩
  · exact ⟨a, fun p hp => hp, hsub, .inr ⟨_, tok, hr, hs i p he⟩⟩
theorem grid_plain (Gr : grid_claim_C KK qq) (w : World) (mean : ExcName → Option Value) (mg mb : SStr → Option Value) {word : SStr} {ts : Tok} {news : Led} {vs : List Value} {g : Quad} (hg : Good word) (hgr : gridF (KStt.codes word) = g) (e : vs = [.str word ts]) :
    LClaim KK qq 20 w mean mg mb 460 news vs (GridR g news) := by
  subst e
  subst hgr
  exact Gr w mean mg mb word ts news hg.len
structure StE where
  wd : SStr
  tk : Tok
abbrev StE.bind (c : StE) : List (SStr × Value) := [(S "word", .str c.wd c.tk)]
theorem bind1 {m : SStr → Option Value} {x : SStr} {t : Tok} (h1 : m (S "word") = some (.str x t)) : ∀ z ∈ StE.bind ⟨x, t⟩, m z.1 = some z.2 := by
  intro z hz
  simp only [StE.bind, List.mem_cons, List.not_mem_nil, or_false] at hz
  subst hz
  exact h1
structure InvE (w0 : SStr) (pre : List Int) (c : StE) : Prop where
  good : Good c.wd
  grid : gridF (KStt.codes c.wd) = gridF (KStt.codes w0)
  nf : nfS c.wd = nfS w0
  len : c.wd.length + 2 * pre.length ≤ 5
def EndR (word : SStr) (news : Led) (r : Value) (news' : Led) : Prop := Sub news news' ∧ ∃ tok, r = .str (nfS word) tok
end Mine
end
section
open PySem PySem.W PyProof.Rows
namespace Mine
def end_claim_C (KK : PySem.Params → Frag) (qq : Program) : Prop := ∀ (PL : PlainLaw) (w : World) (mean : ExcName → Option Value) (mg mb : SStr → Option Value) (word : SStr) (begin' : Int) (ts tb : Tok) (news : Led) (hw : Good word) (hb : 0 ≤ begin' ∧ begin' ≤ 40),
   LClaim KK qq 70 w mean mg mb 467 news [.str word ts, .int begin' tb] (EndR word news)
end Mine
end
section
open PySem PySem.W PyProof.Rows
namespace Mine
variable {KK : PySem.Params → Frag} {qq : Program}

section
variable {subj : SStr} {f : Nat} {l : List Nd} {i : Int} {ps : List (List Nd × Int)} {V : Option SStr}
abbrev OkI (i : Int) (ps : List (List Nd × Int)) : Prop := 0 ≤ i ∧ i ≤ 100 ∧ ps.length ≤ 50
theorem run_alt {a b : Nd} (h : OkI i ps) : run subj (f + 1) (.alt a b :: l) i ps V = run subj f (a :: l) i ((b :: l, i) :: ps) V := by
  simp [run, okAt, okN, h.1, h.2.1, h.2.2, stp, pls, vls]
theorem run_cat {a b : Nd} (h : OkI i ps) : run subj (f + 1) (.cat a b :: l) i ps V = run subj f (a :: b :: l) i ps V := by
  simp [run, okAt, okN, h.1, h.2.1, h.2.2, stp, pls, vls]
theorem run_now {a : Nd} (h : OkI i ps) : run subj (f + 1) (.now a :: l) i ps V = run subj f (a :: .endn i :: l) i ps V := by
  simp [run, okAt, okN, h.1, h.2.1, h.2.2, stp, pls, vls]
theorem run_end (h : OkI i ps) : run subj (f + 1) (.endn 0 :: l) i ps V = run subj f l i ps (some (Txt.slice subj (some 0) (some i))) := by
  simp [run, okAt, okN, h.1, h.2.1, h.2.2, stp, pls, vls]
theorem run_tab {p : Int} (h : OkI i ps) (hp : 0 ≤ p ∧ p ≤ 100) (hi : i ≤ p ∧ p ≤ (subj.length : Int)) : run subj (f + 1) (.tab p :: l) i ps V = run subj f l p ps V := by
  simp [run, okAt, okN, h.1, h.2.1, h.2.2, stp, pls, vls, hp.1, hp.2, hi.1, hi.2]
theorem run_arb (h : OkI i ps) : run subj (f + 1) (.arb :: l) i ps V = run subj f l i (if i < (subj.length : Int) then (.arb :: l, i + 1) :: ps else ps) V := by
  simp [run, okAt, okN, h.1, h.2.1, h.2.2, stp, pls, vls]
theorem run_hit {s : SStr} (h : OkI i ps) (hs : s.length ≤ 5) (hh : (Txt.slice subj (some i) (some (i + (s.length : Int))) == s) = true) : run subj (f + 1) (.chars s :: l) i ps V = run subj f l (i + (s.length : Int)) ps V := by
  simp only [run, okAt, okN, stp, pls, vls, hh]
  simp [h.1, h.2.1, h.2.2, hs]
theorem run_miss {s : SStr} (h : OkI i ps) (hs : s.length ≤ 5) (hh : (Txt.slice subj (some i) (some (i + (s.length : Int))) == s) = false) : run subj (f + 1) (.chars s :: l) i ps V = popRun subj f ps V := by
  have hg : okAt (.chars s) i ps = true := by simp [okAt, okN, h.1, h.2.1, h.2.2, hs]
  have hst : stp subj (.chars s) l i = none := by simp only [stp, hh]; rfl
  unfold run
  rw [if_pos hg, hst]
  cases ps <;> rfl
end
theorem slice_eq (x : SStr) (a b : Option Int) : Txt.slice x a b = PySem.StrLaws.sliceText x a b := rfl
theorem idx_clamp (l : Option Int) {j : Int} {n : Nat} (h : (n : Int) ≤ j) : PySem.Builtin.Str.strSliceIndices l (some j) 1 n = PySem.Builtin.Str.strSliceIndices l (some (n : Int)) 1 n := by
  have a : ¬ (j < 0) := by omega
  have b : ¬ ((n : Int) < 0) := by omega
  have c : min j (n : Int) = n := by omega
  simp [PySem.Builtin.Str.strSliceIndices, a, b, c]
theorem slice_at {x : SStr} {i : Int} {k : Nat} (h : 0 ≤ i ∧ i ≤ (x.length : Int)) : Txt.slice x (some i) (some (i + (k : Int))) = ⟨((x.cps.toList.drop i.toNat).take k).toArray⟩ := by
  have hl : x.length = x.cps.toList.length := by simp [PySem.Str.length]
  rw [slice_eq]
  by_cases hc : i + (k : Int) ≤ (x.length : Int)
  · rw [PySem.StrLaws.sliceText_plain ⟨h.1, by omega, by omega⟩]
    have e : (i + (k : Int) - i).toNat = k := by omega
    rw [e]
  · have e1 : PySem.StrLaws.sliceText x (some i) (some (i + (k : Int))) = PySem.StrLaws.sliceText x (some i) (some (x.length : Int)) := by
      unfold PySem.StrLaws.sliceText
      rw [idx_clamp (some i) (show (x.length : Int) ≤ i + (k : Int) by omega)]
    rw [e1, PySem.StrLaws.sliceText_plain ⟨h.1, h.2, by omega⟩]
    have e2 : (x.cps.toList.drop i.toNat).take ((x.length : Int) - i).toNat = x.cps.toList.drop i.toNat := List.take_of_length_le (by rw [List.length_drop]; omega)
    have e3 : (x.cps.toList.drop i.toNat).take k = x.cps.toList.drop i.toNat := List.take_of_length_le (by rw [List.length_drop]; omega)
    rw [e2, e3]
theorem str_beq_list (a : List Nat) (t : SStr) : ((⟨a.toArray⟩ : SStr) == t) = decide (a = t.cps.toList) := by
  rw [Bool.eq_iff_iff, beq_iff_eq, decide_eq_true_eq]
  constructor
  · intro h; rw [← h]
  · intro h; subst h; apply PySem.Str.ext'; simp
end Mine
end
section
open PySem PySem.W PyProof.Rows
namespace Mine
variable {KK : PySem.Params → Frag} {qq : Program}

theorem hit_eq {x t : SStr} {i : Int} {a b : Nat} (ht : t.cps.toList = [a, b]) (hl : t.length = 2) (h : 0 ≤ i ∧ i ≤ (x.length : Int)) : (Txt.slice x (some i) (some (i + (t.length : Int))) == t) = decide ((x.cps.toList.drop i.toNat).take 2 = [a, b]) := by
  rw [hl, slice_at h, str_beq_list, ht]
def A1 : Nd := .alt (.chars (S "aA")) (.chars (S "Aa"))
def A2 : Nd := .alt (.chars (S "bB")) (.chars (S "Bb"))
def hitS (L : List Nat) (i : Nat) : Bool := decide ((L.drop i).take 2 = [97, 65]) || decide ((L.drop i).take 2 = [65, 97]) || decide ((L.drop i).take 2 = [98, 66]) || decide ((L.drop i).take 2 = [66, 98])
theorem run_four {subj : SStr} {g : Nat} {i : Int} {ps : List (List Nd × Int)} {V : Option SStr} (h : 0 ≤ i ∧ i ≤ (subj.length : Int)) (h5 : subj.length ≤ 5) (hp : ps.length ≤ 10) :
    run subj (g + 8) [.alt A1 A2] i ps V = if hitS subj.cps.toList i.toNat = true then some (some (i + 2), V) else popRun subj (g + 1) ps V := by
  have o0 : OkI i ps := ⟨h.1, by omega, by omega⟩
  have c1 : (S "aA").cps.toList = [97, 65] := by decide +kernel
  have c2 : (S "Aa").cps.toList = [65, 97] := by decide +kernel
  have c3 : (S "bB").cps.toList = [98, 66] := by decide +kernel
  have c4 : (S "Bb").cps.toList = [66, 98] := by decide +kernel
  have l1 : (S "aA").length = 2 := by decide +kernel
  have l2 : (S "Aa").length = 2 := by decide +kernel
  have l3 : (S "bB").length = 2 := by decide +kernel
  have l4 : (S "Bb").length = 2 := by decide +kernel
  have e1 := hit_eq c1 l1 h
  have e2 := hit_eq c2 l2 h
  have e3 := hit_eq c3 l3 h
  have e4 := hit_eq c4 l4 h
  have o1 : OkI i (([A2], i) :: ps) := ⟨h.1, by omega, by simp; omega⟩
  have o2 : OkI i (([.chars (S "Aa")], i) :: ([A2], i) :: ps) := ⟨h.1, by omega, by simp; omega⟩
  have o3 : OkI i (([.chars (S "Bb")], i) :: ps) := ⟨h.1, by omega, by simp; omega⟩
  unfold hitS
  rw [show g + 8 = (g + 7) + 1 from rfl, run_alt o0]
  rw [show A1 = .alt (.chars (S "aA")) (.chars (S "Aa")) from rfl, show g + 7 = (g + 6) + 1 from rfl, run_alt o1]
  by_cases k1 : (subj.cps.toList.drop i.toNat).take 2 = [97, 65]
  · rw [show g + 6 = (g + 5) + 1 from rfl, run_hit o2 (by omega) (by rw [e1]; exact decide_eq_true k1), l1]
    simp [k1, run]
  rw [show g + 6 = (g + 5) + 1 from rfl, run_miss o2 (by omega) (by rw [e1]; exact decide_eq_false k1)]
  show run subj (g + 5) [.chars (S "Aa")] i (([A2], i) :: ps) V = _
  by_cases k2 : (subj.cps.toList.drop i.toNat).take 2 = [65, 97]
  · rw [show g + 5 = (g + 4) + 1 from rfl, run_hit o1 (by omega) (by rw [e2]; exact decide_eq_true k2), l2]
    simp [k2, run]
  rw [show g + 5 = (g + 4) + 1 from rfl, run_miss o1 (by omega) (by rw [e2]; exact decide_eq_false k2)]
  show run subj (g + 4) [A2] i ps V = _
  rw [show A2 = .alt (.chars (S "bB")) (.chars (S "Bb")) from rfl, show g + 4 = (g + 3) + 1 from rfl, run_alt o0]
  by_cases k3 : (subj.cps.toList.drop i.toNat).take 2 = [98, 66]
  · rw [show g + 3 = (g + 2) + 1 from rfl, run_hit o3 (by omega) (by rw [e3]; exact decide_eq_true k3), l3]
    simp [k3, run]
  rw [show g + 3 = (g + 2) + 1 from rfl, run_miss o3 (by omega) (by rw [e3]; exact decide_eq_false k3)]
  show run subj (g + 2) [.chars (S "Bb")] i ps V = _
  by_cases k4 : (subj.cps.toList.drop i.toNat).take 2 = [66, 98]
  · rw [show g + 2 = (g + 1) + 1 from rfl, run_hit o0 (by omega) (by rw [e4]; exact decide_eq_true k4), l4]
    simp [k4, run]
  rw [show g + 2 = (g + 1) + 1 from rfl, run_miss o0 (by omega) (by rw [e4]; exact decide_eq_false k4)]
  simp [k1, k2, k3, k4]
def findR (subj : SStr) : Nat → Int → Option Int × Option SStr
  | 0, i => if hitS subj.cps.toList i.toNat = true then (some (i + 2), some (Txt.slice subj (some 0) (some i))) else (none, some (Txt.slice subj (some 0) (some i)))
  | m + 1, i => if hitS subj.cps.toList i.toNat = true then (some (i + 2), some (Txt.slice subj (some 0) (some i))) else findR subj m (i + 1)
theorem run_at {subj : SStr} (h5 : subj.length ≤ 5) : ∀ (m : Nat) (i : Int) (f : Nat) (V : Option SStr), 0 ≤ i → i + (m : Int) = (subj.length : Int) → 10 * m + 12 ≤ f → run subj f [.arb, .endn 0, .alt A1 A2] i [] V = some (findR subj m i)
  | 0, i, f, V, h0, hm, hf => by
    obtain ⟨g, rfl⟩ : ∃ g, f = (g + 8) + 2 := ⟨f - 10, by omega⟩
    have o0 : OkI i [] := ⟨h0, by omega, by simp⟩
    rw [show g + 8 + 2 = (g + 8 + 1) + 1 from rfl, run_arb o0, if_neg (by omega), run_end o0, run_four ⟨h0, by omega⟩ h5 (by simp)]
    unfold findR popRun
    split <;> rfl
  | m + 1, i, f, V, h0, hm, hf => by
    obtain ⟨g, rfl⟩ : ∃ g, f = (g + 8) + 2 := ⟨f - 10, by omega⟩
    have o0 : OkI i [] := ⟨h0, by omega, by simp⟩
    have o1 : OkI i [([.arb, .endn 0, .alt A1 A2], i + 1)] := ⟨h0, by omega, by simp⟩
    rw [show g + 8 + 2 = (g + 8 + 1) + 1 from rfl, run_arb o0, if_pos (by omega), run_end o1, run_four ⟨h0, by omega⟩ h5 (by simp)]
    unfold findR
    split
    · rfl
    · exact run_at h5 m (i + 1) (g + 1) _ (by omega) (by omega) (by omega)
theorem run_top {subj : SStr} (h5 : subj.length ≤ 5) {place : Int} (h0 : 0 ≤ place) (h1 : place ≤ (subj.length : Int)) : run subj 200 [topN place] 0 [] none = some (findR subj ((subj.length : Int) - place).toNat place) := by
  have o0 : OkI 0 [] := ⟨by omega, by omega, by simp⟩
  show run subj (199 + 1) [.cat (.now (.cat (.tab place) .arb)) (.alt A1 A2)] 0 [] none = _
  rw [run_cat o0, show 199 = 198 + 1 from rfl, run_now o0, show 198 = 197 + 1 from rfl, run_cat o0, show 197 = 196 + 1 from rfl, run_tab o0 ⟨h0, by omega⟩ ⟨h0, h1⟩]
  exact run_at h5 _ place 196 none h0 (by omega) (by omega)
end Mine
end
section
open PySem PySem.W PyProof.Rows
namespace Mine
variable {KK : PySem.Params → Frag} {qq : Program}

def Rdc : List Nat → Prop
  | c :: d :: t => inv2 c d = false ∧ Rdc (d :: t)
  | _ => True
theorem Rdc.tail {c : Nat} {l : List Nat} (h : Rdc (c :: l)) : Rdc l := by
  cases l with
  | nil => trivial
  | cons d t => exact h.2
theorem nfL_rdc : ∀ l : List Nat, Rdc (nfL l)
  | [] => trivial
  | c :: r => by
    have ih := nfL_rdc r
    unfold nfL
    cases h : nfL r with
    | nil => trivial
    | cons d t =>
      rw [h] at ih
      dsimp only
      cases q : inv2 c d with
      | true => simp only [if_true]; exact ih.tail
      | false => simp only [Bool.false_eq_true, if_false]; exact ⟨q, ih⟩
theorem inv2_inj {c d e : Nat} (h : inv2 c d = true) (k : inv2 d e = true) : c = e := by
  simp only [inv2, Bool.or_eq_true, Bool.and_eq_true, beq_iff_eq] at h k
  omega
theorem nfL_pair {c d : Nat} (h : inv2 c d = true) (post : List Nat) : nfL (c :: d :: post) = nfL post := by
  have hr := nfL_rdc post
  show (match (match nfL post with | [] => [d] | e :: t => if inv2 d e then t else d :: e :: t) with | [] => [c] | x :: t => if inv2 c x then t else c :: x :: t) = nfL post
  cases q : nfL post with
  | nil => simp [h]
  | cons e t =>
    rw [q] at hr
    dsimp only
    cases k : inv2 d e with
    | false => simp [h]
    | true =>
      have hc := inv2_inj h k
      subst hc
      cases t with
      | nil => simp
      | cons x t => simp [hr.1]
theorem nfL_mid {c d : Nat} (h : inv2 c d = true) (post : List Nat) : ∀ pre : List Nat, nfL (pre ++ c :: d :: post) = nfL (pre ++ post)
  | [] => nfL_pair h post
  | x :: pre => by
    have ih := nfL_mid h post pre
    show (match nfL (pre ++ c :: d :: post) with | [] => [x] | y :: t => if inv2 x y then t else x :: y :: t) = (match nfL (pre ++ post) with | [] => [x] | y :: t => if inv2 x y then t else x :: y :: t)
    rw [ih]
theorem nfL_id : ∀ l : List Nat, Rdc l → nfL l = l
  | [], _ => rfl
  | [c], _ => rfl
  | c :: d :: t, h => by
    have ih := nfL_id (d :: t) h.2
    show (match nfL (d :: t) with | [] => [c] | y :: t => if inv2 c y then t else c :: y :: t) = c :: d :: t
    rw [ih]
    simp [h.1]
theorem gstep_pair {c d : Nat} (h : inv2 c d = true) (g : Quad) : gstep (gstep g c) d = g := by
  obtain ⟨p, q, r, s⟩ := g
  simp only [inv2, Bool.or_eq_true, Bool.and_eq_true, beq_iff_eq] at h
  rcases h with ((⟨rfl, rfl⟩ | ⟨rfl, rfl⟩) | ⟨rfl, rfl⟩) | ⟨rfl, rfl⟩ <;> simp [gstep] <;> omega
theorem grid_mid {c d : Nat} (h : inv2 c d = true) (pre post : List Nat) : gridF ((pre ++ c :: d :: post).map fun (n : Nat) => (n : Int)) = gridF ((pre ++ post).map fun (n : Nat) => (n : Int)) := by
  simp only [gridF, List.map_append, List.map_cons, List.foldl_append, List.foldl_cons]
  rw [gstep_pair h]
theorem hitS_iff {L : List Nat} {i : Nat} : hitS L i = true ↔ ∃ c d post, L.drop i = c :: d :: post ∧ inv2 c d = true := by
  unfold hitS
  cases h : L.drop i with
  | nil => simp
  | cons c r =>
    cases r with
    | nil => simp
    | cons d post =>
      simp only [List.take_succ_cons, List.take_zero, Bool.or_eq_true, decide_eq_true_eq, List.cons.injEq, and_true, inv2, Bool.and_eq_true, beq_iff_eq]
      constructor
      · intro hh; exact ⟨c, d, post, ⟨rfl, rfl, rfl⟩, hh⟩
      · rintro ⟨c', d', post', ⟨rfl, rfl, rfl⟩, hh⟩; exact hh
theorem rdc_of_no : ∀ L : List Nat, (∀ i, hitS L i = false) → Rdc L
  | [], _ => trivial
  | [c], _ => trivial
  | c :: d :: t, h => by
    refine ⟨?_, rdc_of_no (d :: t) fun i => by simpa [hitS] using h (i + 1)⟩
    cases q : inv2 c d with
    | false => rfl
    | true =>
      have := h 0
      rw [hitS_iff.mpr ⟨c, d, t, rfl, q⟩] at this
      cases this
end Mine
end
section
open PySem PySem.W PyProof.Rows
namespace Mine
variable {KK : PySem.Params → Frag} {qq : Program}

theorem findR_spec {subj : SStr} : ∀ (m : Nat) (i : Int), 0 ≤ i → i + (m : Int) = (subj.length : Int) →
    ((findR subj m i).1 = none ∧ ∀ j : Int, i ≤ j → j ≤ (subj.length : Int) → hitS subj.cps.toList j.toNat = false) ∨
    ∃ j : Int, i ≤ j ∧ j ≤ (subj.length : Int) ∧ hitS subj.cps.toList j.toNat = true ∧ findR subj m i = (some (j + 2), some (Txt.slice subj (some 0) (some j)))
  | 0, i, h0, hm => by
    by_cases h : hitS subj.cps.toList i.toNat = true
    · exact .inr ⟨i, Int.le_refl _, by omega, h, by simp [findR, h]⟩
    · refine .inl ⟨by simp [findR, h], fun j h1 h2 => ?_⟩
      have : j = i := by omega
      subst this
      simpa using h
  | m + 1, i, h0, hm => by
    by_cases h : hitS subj.cps.toList i.toNat = true
    · exact .inr ⟨i, Int.le_refl _, by omega, h, by simp [findR, h]⟩
    · have e : findR subj (m + 1) i = findR subj m (i + 1) := by simp [findR, h]
      rw [e]
      rcases findR_spec (subj := subj) m (i + 1) (by omega) (by omega) with ⟨a, b⟩ | ⟨j, a, b, c, d⟩
      · refine .inl ⟨a, fun j h1 h2 => ?_⟩
        by_cases hj : j = i
        · subst hj; simpa using h
        · exact b j (by omega) h2
      · exact .inr ⟨j, by omega, b, c, d⟩
theorem str_list {x : SStr} {l : List Nat} (h : x.cps.toList = l) : x = ⟨l.toArray⟩ := by
  subst h; apply PySem.Str.ext'; simp
theorem len_list' (x : SStr) : x.length = x.cps.toList.length := by simp [PySem.Str.length]
theorem codes_map (x : SStr) : KStt.codes x = x.cps.toList.map fun (n : Nat) => (n : Int) := rfl
theorem red_of {word w' : SStr} (hg : Good word) {pre post : List Nat} {c d : Nat} (h : inv2 c d = true) (hL : word.cps.toList = pre ++ c :: d :: post) (hW : w'.cps.toList = pre ++ post) : Red word w' := by
  have hl := hg.len
  have hab := hg.abc
  rw [len_list', hL] at hl
  rw [hL] at hab
  simp only [List.length_append, List.length_cons] at hl
  refine ⟨⟨?_, fun x hx => hab x ?_⟩, ?_, ?_, ?_⟩
  · rw [len_list', hW, List.length_append]; omega
  · rw [hW] at hx
    rcases List.mem_append.mp hx with hx | hx
    · exact List.mem_append_left _ hx
    · exact List.mem_append_right _ (.tail _ (.tail _ hx))
  · rw [len_list', len_list', hW, hL]; simp only [List.length_append, List.length_cons]; omega
  · rw [codes_map, codes_map, hW, hL, grid_mid h]
  · show (⟨(nfL w'.cps.toList).toArray⟩ : SStr) = ⟨(nfL word.cps.toList).toArray⟩
    rw [hW, hL, nfL_mid h]
theorem plain_law : PlainLaw := by
  intro word place hg h0 h1
  have h5 := hg.len
  have hll := len_list' word
  refine ⟨_, run_top h5 h0 h1, ?_⟩
  rcases findR_spec (subj := word) ((word.length : Int) - place).toNat place h0 (by omega) with ⟨a, b⟩ | ⟨j, a, b, c, d⟩
  · refine ⟨.inl a, fun _ hp => ?_, fun i p hip => ?_⟩
    · subst hp
      have hno : ∀ i, hitS word.cps.toList i = false := by
        intro i
        by_cases hi : (i : Int) ≤ (word.length : Int)
        · simpa using b (i : Int) (by omega) hi
        · have : word.cps.toList.drop i = [] := List.drop_eq_nil_of_le (by omega)
          simp [hitS, this]
      have := nfL_id _ (rdc_of_no _ hno)
      show (⟨(nfL word.cps.toList).toArray⟩ : SStr) = word
      rw [this]
    · rw [hip] at a; exact nomatch a
  · have hs : (Txt.slice word (some 0) (some j)).length ≤ 5 := Nat.le_trans (Txt.slice_le _ _ _) h5
    refine ⟨.inr ⟨_, _, d, by omega, by omega, hs⟩, fun hn => absurd hn (by rw [d]; exact fun h => nomatch h), fun i p hip => ?_⟩
    rw [d] at hip
    cases hip
    obtain ⟨x, y, post, hd, hv⟩ := hitS_iff.mp c
    have hlen : (word.cps.toList.drop j.toNat).length = post.length + 2 := by rw [hd]; rfl
    rw [List.length_drop] at hlen
    have hj2 : j + 2 ≤ (word.cps.toList.length : Int) := by omega
    have hL : word.cps.toList = word.cps.toList.take j.toNat ++ x :: y :: post := by rw [← hd, List.take_append_drop]
    refine red_of hg hv hL ?_
    have hpost : word.cps.toList.drop (j + 2).toNat = post := by
      have e : (j + 2).toNat = j.toNat + 2 := by omega
      rw [e, ← List.drop_drop, hd]
      rfl
    rw [PySem.Str.cps_append, PySem.Str.cps_append, slice_eq, slice_eq, slice_eq, PySem.StrLaws.sliceText_to ⟨by omega, by omega⟩, PySem.StrLaws.sliceText_plain ⟨by omega, by omega, by omega⟩, PySem.StrLaws.sliceText_from ⟨by omega, hj2⟩]
    have e1 : (word.cps.toList.drop (j + 2).toNat).take ((word.cps.toList.length : Int) - (j + 2)).toNat = post := by
      rw [hpost]
      exact List.take_of_length_le (by omega)
    simpa using e1
end Mine
end
section
open PySem PySem.W PyProof.Rows
namespace Mine
variable {KK : PySem.Params → Frag} {qq : Program}

def gN (l : List Nat) : Quad := gridF (l.map fun (n : Nat) => (n : Int))
/-- all words of at most k signs that go on from pre and hold no pair -/
def grow : Nat → List Nat → List (List Nat)
  | 0, pre => [pre]
  | k + 1, pre => pre :: ([97, 65, 98, 66].filter fun c => match pre with | [] => true | d :: _ => !inv2 c d).flatMap fun c => grow k (c :: pre)
def szQ (g : Quad) : Nat := g.1.natAbs + g.2.1.natAbs + g.2.2.1.natAbs + g.2.2.2.natAbs
def opp (c : Nat) : Nat := if c = 97 then 65 else if c = 65 then 97 else if c = 98 then 66 else 98
def peel : Nat → Quad → List Nat
  | 0, _ => []
  | k + 1, g => match [97, 65, 98, 66].find? fun c => Nat.blt (szQ (gstep g (opp c : Nat))) (szQ g) with
    | none => []
    | some c => peel k (gstep g (opp c : Nat)) ++ [c]
theorem peel_all : ((grow 5 []).all fun l => decide (peel 6 (gN l) = l)) = true := by decide +kernel
end Mine
end
section
open PySem PySem.W PyProof.Rows
namespace Mine
variable {KK : PySem.Params → Frag} {qq : Program}

def Abc (c : Nat) : Prop := c = 97 ∨ c = 65 ∨ c = 98 ∨ c = 66
theorem Rdc.right : ∀ (u v : List Nat), Rdc (u ++ v) → Rdc v
  | [], _, h => h
  | _ :: u, v, h => Rdc.right u v h.tail
theorem grow_mem : ∀ (k : Nat) (u pre : List Nat), u.length ≤ k → Rdc (u ++ pre) → (∀ c ∈ u, Abc c) → u ++ pre ∈ grow k pre
  | 0, u, pre, hl, _, _ => by
    have : u = [] := List.eq_nil_of_length_eq_zero (by omega)
    subst this
    simp [grow]
  | k + 1, u, pre, hl, hr, ha => by
    by_cases hu : u = []
    · subst hu; simp [grow]
    · obtain ⟨u', c, rfl⟩ : ∃ u' c, u = u' ++ [c] := ⟨u.dropLast, u.getLast hu, (List.dropLast_concat_getLast hu).symm⟩
      have e : u' ++ [c] ++ pre = u' ++ (c :: pre) := by simp
      rw [e] at hr ⊢
      have ih := grow_mem k u' (c :: pre) (by simp at hl; omega) hr (fun x hx => ha x (List.mem_append_left _ hx))
      have hc := ha c (List.mem_append_right _ (.head _))
      have h2 := Rdc.right u' (c :: pre) hr
      unfold grow
      refine List.mem_cons_of_mem _ (List.mem_flatMap.mpr ⟨c, List.mem_filter.mpr ⟨?_, ?_⟩, ih⟩)
      · rcases hc with rfl | rfl | rfl | rfl <;> simp
      · cases pre with
        | nil => rfl
        | cons d t => simp [h2.1]
theorem peel_of {l : List Nat} (hr : Rdc l) (hl : l.length ≤ 5) (ha : ∀ c ∈ l, Abc c) : peel 6 (gN l) = l := by
  have hm := grow_mem 5 l [] hl (by simpa using hr) ha
  rw [List.append_nil] at hm
  exact of_decide_eq_true (List.all_eq_true.mp peel_all l hm)
theorem gN_mid {c d : Nat} (h : inv2 c d = true) (pre post : List Nat) : gN (pre ++ c :: d :: post) = gN (pre ++ post) := grid_mid h pre post
theorem gN_nf_from : ∀ (l : List Nat) (g : Quad), ((nfL l).map fun (n : Nat) => (n : Int)).foldl gstep g = (l.map fun (n : Nat) => (n : Int)).foldl gstep g
  | [], _ => rfl
  | c :: r, g => by
    have ih := gN_nf_from r (gstep g c)
    show ((nfL (c :: r)).map _).foldl gstep g = (r.map _).foldl gstep (gstep g c)
    rw [← ih]
    show ((match nfL r with | [] => [c] | d :: t => if inv2 c d then t else c :: d :: t).map _).foldl gstep g = _
    cases h : nfL r with
    | nil => rfl
    | cons d t =>
      dsimp only
      cases q : inv2 c d with
      | false => simp
      | true => simp [gstep_pair q]
theorem gN_nf (l : List Nat) : gN (nfL l) = gN l := gN_nf_from l _
theorem nfL_len : ∀ l : List Nat, (nfL l).length ≤ l.length
  | [] => Nat.le_refl _
  | c :: r => by
    have ih := nfL_len r
    unfold nfL
    cases h : nfL r with
    | nil => simp
    | cons d t =>
      rw [h] at ih
      dsimp only
      simp only [List.length_cons] at ih ⊢
      split <;> simp <;> omega
theorem nfL_abc : ∀ l : List Nat, (∀ c ∈ l, Abc c) → ∀ c ∈ nfL l, Abc c
  | [], h, c, hc => nomatch hc
  | x :: r, h, c, hc => by
    have ih := nfL_abc r fun y hy => h y (.tail _ hy)
    have hx := h x (.head _)
    unfold nfL at hc
    cases q : nfL r with
    | nil =>
      rw [q] at hc
      simp only [List.mem_singleton] at hc
      exact hc ▸ hx
    | cons d t =>
      rw [q] at hc ih
      dsimp only at hc
      split at hc
      · exact ih c (.tail _ hc)
      · rcases List.mem_cons.mp hc with rfl | hc
        · exact hx
        · exact ih c hc
theorem nf_iff {u v : List Nat} (hu : u.length ≤ 5) (hv : v.length ≤ 5) (au : ∀ c ∈ u, Abc c) (av : ∀ c ∈ v, Abc c) : nfL u = nfL v ↔ gN u = gN v := by
  constructor
  · intro h; rw [← gN_nf u, h, gN_nf]
  · intro h
    rw [← gN_nf u, ← gN_nf v] at h
    rw [← peel_of (nfL_rdc u) (Nat.le_trans (nfL_len u) hu) (nfL_abc u au), h, peel_of (nfL_rdc v) (Nat.le_trans (nfL_len v) hv) (nfL_abc v av)]
end Mine
end
section
open PySem PySem.W PyProof.Rows
namespace Mine
variable {KK : PySem.Params → Frag} {qq : Program}

theorem good_nf {x : SStr} (h : Good x) : Good (nfS x) := by
  have hl := h.len
  rw [len_list'] at hl
  refine ⟨?_, ?_⟩
  · rw [len_list']
    show (nfL x.cps.toList).toArray.toList.length ≤ 5
    have := nfL_len x.cps.toList
    simp only [List.toList_toArray] at *
    omega
  · intro c hc
    refine nfL_abc x.cps.toList h.abc c ?_
    simpa [nfS] using hc
theorem nfS_iff {u v : SStr} (hu : Good u) (hv : Good v) : nfS u = nfS v ↔ gridF (KStt.codes u) = gridF (KStt.codes v) := by
  have lu := hu.len
  have lv := hv.len
  rw [len_list'] at lu lv
  have key := nf_iff lu lv hu.abc hv.abc
  constructor
  · intro h
    refine key.mp ?_
    have h2 := congrArg (fun z : SStr => z.cps.toList) h
    simpa [nfS] using h2
  · intro h
    show (⟨(nfL u.cps.toList).toArray⟩ : SStr) = ⟨(nfL v.cps.toList).toArray⟩
    rw [key.mpr h]
theorem rdc_at : ∀ (l : List Nat) (i : Nat) {a b : Nat} {post : List Nat}, Rdc l → l.drop i = a :: b :: post → inv2 a b = false
  | [], i, a, b, post, _, h => by simp at h
  | c :: l, 0, a, b, post, hr, h => by
    simp only [List.drop_zero] at h
    subst_vars
    cases h
    exact hr.1
  | c :: l, i + 1, a, b, post, hr, h => rdc_at l i hr.tail (by simpa using h)
theorem no_pair {x t : SStr} {a b : Nat} (ht : t.cps.toList = [a, b]) (hi : inv2 a b = true) : (!(Builtin.Str.occurrences (nfS x) t 0 (nfS x).length 1).isEmpty) = false := by
  rw [Bool.eq_false_iff]
  intro h
  obtain ⟨i, h1, h2⟩ := (PySem.StrLaws.found_iff _ _).mp h
  have hl : t.length = 2 := by rw [len_list', ht]; rfl
  rw [PySem.StrLaws.subAt_eq, hl, ht, beq_iff_eq] at h2
  have e : (nfS x).cps.toList = nfL x.cps.toList := by simp [nfS]
  rw [e] at h2
  cases hd : (nfL x.cps.toList).drop i with
  | nil => rw [hd] at h2; simp at h2
  | cons c r =>
    cases r with
    | nil => rw [hd] at h2; simp at h2
    | cons d post =>
      rw [hd] at h2
      simp only [List.take_succ_cons, List.take_zero, List.cons.injEq, and_true] at h2
      obtain ⟨rfl, rfl⟩ := h2
      rw [rdc_at _ i (nfL_rdc _) hd] at hi
      cases hi
end Mine
end
section
open PySem PySem.W PyProof.Rows
namespace Mine
variable {KK : PySem.Params → Frag} {qq : Program}

def ElP (Ps : SStr → Prop) (news : Led) (y : Value) (news' : Led) : Prop := news' = news ∧ ∃ z t, y = .str z t ∧ Ps z
theorem strs_snoc {y : SStr} {t : Tok} : ∀ {vs : List Value} {ys : List SStr}, StrsAre vs ys → StrsAre (vs ++ [.str y t]) (ys ++ [y])
  | _, _, .nil => .cons y t .nil
  | _, _, .cons z u r => .cons z u (strs_snoc r)
theorem rest_gen {prog : Program} {w : World} {A : Around} {h₀ : Heap} {L : Addr} {m : SStr → Option Value} {env : Env} {elt : PySem.Expr} {x : SStr} {scope : Scope} {cl : List (SStr × Addr)} {s : Shared} {S : Led → Prop} {P : Nat → Value → Prop} {Fin : List Value → Led → Prop} {news : Led} {n : Nat} (Ps : Nat → SStr → Prop)
    (turn : ∀ i v I oI C oC D m₂ ys h tk (E' : Value → Shared → Prop), i < n → P i v → LCg.NsObj oC m₂ → m₂ x = some v → Fr h₀ L h m → News h₀ L h ((I, oI) :: (C, oC) :: (D, LCg.lst ys) :: news) → LCg.Off3 I C D news → ((@Ne Nat I C) ∧ (@Ne Nat I D) ∧ (@Ne Nat C D)) →
      wpAny (model prog w) A (eval elt (compEnvC scope cl C env)) (LCg.CompEnd h₀ L m { s with heap := h, toks := tk } I oI C oC D (LCg.lst ys) S (fun y news' => ElP (Ps i) news y news')) E' { s with heap := h, toks := tk })
    (fin : ∀ ys xs, StrsAre ys xs → xs.length = n → (∀ i z, xs[i]? = some z → Ps i z) → Fin ys news) : LCg.CompRest prog w A h₀ L m env elt x scope cl s S P Fin n 0 [] news := by
  have key : ∀ (j i : Nat) (ys : List Value) (xs : List SStr), i + j = n → StrsAre ys xs → xs.length = i → (∀ i z, xs[i]? = some z → Ps i z) → LCg.CompRest prog w A h₀ L m env elt x scope cl s S P Fin j i ys news := by
    intro j
    induction j with
    | zero =>
      intro i ys xs hi hy hl hp
      exact LCg.CompRest.zero (fin ys xs hy (by omega) hp)
    | succ j ih =>
      intro i ys xs hi hy hl hp
      refine LCg.CompRest.succ ?_
      intro v I oI C oC D m₂ h tk E' hv hC hx F N off ne
      refine wpAny_mono (turn i v I oI C oC D m₂ ys h tk E' (by omega) hv hC hx F N off ne) (fun y s₂ hq => ?_) fun _ _ e => e
      obtain ⟨h', tk', nw, e, F', N', off', hS, hn, z, t', hy', hz⟩ := hq
      rw [hn] at N' off' hS
      refine ⟨h', tk', news, e, F', N', off', hS, ?_⟩
      rw [hy']
      refine ih (i + 1) _ (xs ++ [z]) (by omega) (strs_snoc hy) (by rw [List.length_append, List.length_singleton, hl]) ?_
      intro a b hab
      by_cases ha : a < xs.length
      · rw [List.getElem?_append_left ha] at hab
        exact hp a b hab
      · rw [List.getElem?_append_right (by omega)] at hab
        cases hd : a - xs.length with
        | zero =>
          rw [hd] at hab
          simp only [List.getElem?_cons_zero, Option.some.injEq] at hab
          have : a = i := by omega
          subst this
          exact hab ▸ hz
        | succ q => rw [hd] at hab; simp at hab
  exact key n 0 [] [] (by omega) .nil rfl (by intro i z h; simp at h)

theorem len_made {prog : Program} {w : World} {A : Around} {E : Value → Shared → Prop} {s : Shared} {h₀ : Heap} {L l : Addr} {news : Led} {vs : List Value} {ns : List Int} {n : Nat} {Q : Value → Shared → Prop} (N : News h₀ L s.heap news) (hm : (l, PySem.W.listOf vs.toArray n) ∈ news) (hi : IntsAre vs ns) (hz : ns.length ≤ 1000)
    (h : ∀ t tk', Q (.int (ns.length : Int) t) { s with toks := tk' }) : wpAny (model prog w) A (call (.builtin "len") [.ref l]) Q E s := by
  have hl := hi.length
  refine len_list (News.isList N hm) ?_ ?_
  · rw [List.size_toArray, hl]; omega
  · rw [List.size_toArray, hl]
    exact h _ _
theorem ints5 {a b c d e : Int} {t1 t2 t3 t4 t5 : Tok} : IntsAre [.int a t1, .int b t2, .int c t3, .int d t4, .int e t5] [a, b, c, d, e] := .cons _ _ (.cons _ _ (.cons _ _ (.cons _ _ (.cons _ _ .nil))))
theorem cells5 {ns : List Int} {ws : List Value} {r : Nat} (h : IntsAre ws (List.map (fun k' : Int => if k' < 0 then -k' else k') (List.take 5 ns) ++ List.drop r [56, 4, 14, 4, 2])) (hr : r = (List.take 5 ns).length) :
    ∃ c0 c1 c2 c3 c4 : Int, ∃ t0 t1 t2 t3 t4 : Tok, ws = [.int c0 t0, .int c1 t1, .int c2 t2, .int c3 t3, .int c4 t4] ∧ 0 ≤ c0 ∧ 0 ≤ c1 ∧ 0 ≤ c2 ∧ 0 ≤ c3 ∧ 0 ≤ c4 := by
  have key : ∀ l : List Int, l.length = 5 → (∀ x ∈ l, 0 ≤ x) → IntsAre ws l → ∃ c0 c1 c2 c3 c4 : Int, ∃ t0 t1 t2 t3 t4 : Tok, ws = [.int c0 t0, .int c1 t1, .int c2 t2, .int c3 t3, .int c4 t4] ∧ 0 ≤ c0 ∧ 0 ≤ c1 ∧ 0 ≤ c2 ∧ 0 ≤ c3 ∧ 0 ≤ c4 := by
    intro l hl hp hi
    cases hi with
    | nil => simp at hl
    | cons c0 t0 hi => cases hi with
      | nil => simp at hl
      | cons c1 t1 hi => cases hi with
        | nil => simp at hl
        | cons c2 t2 hi => cases hi with
          | nil => simp at hl
          | cons c3 t3 hi => cases hi with
            | nil => simp at hl
            | cons c4 t4 hi => cases hi with
              | cons c5 t5 hi => simp at hl
              | nil =>
                simp only [List.mem_cons, List.not_mem_nil, or_false, forall_eq_or_imp, forall_eq] at hp
                exact ⟨c0, c1, c2, c3, c4, t0, t1, t2, t3, t4, rfl, hp.1, hp.2.1, hp.2.2.1, hp.2.2.2.1, hp.2.2.2.2⟩
  refine key _ ?_ ?_ h
  · subst hr
    simp only [List.length_append, List.length_map, List.length_drop, List.length_take, List.length_cons, List.length_nil]
    omega
  · intro x hx
    rcases List.mem_append.mp hx with hx | hx
    · obtain ⟨y, _, rfl⟩ := List.mem_map.mp hx
      split <;> omega
    · have := List.mem_of_mem_drop hx
      simp only [List.mem_cons, List.not_mem_nil, or_false] at this
      omega
theorem cells_room {ns : List Int} {r : Nat} : (List.map (fun k' : Int => if k' < 0 then -k' else k') (List.take 5 ns)).length + (List.drop r [56, 4, 14, 4, (2 : Int)]).length ≤ sizeLine := by
  simp only [List.length_map, List.length_drop, List.length_take, List.length_cons, List.length_nil, sizeLine_eq]
  omega
def sgn (j : Int) : SStr := ⟨#[[97, 65, 98, 66].getD j.toNat 0]⟩
theorem four_cases {j : Int} (h0 : 0 ≤ j) (h1 : j < 4) : j = 0 ∨ j = 1 ∨ j = 2 ∨ j = 3 := by omega
theorem sgn_item {j : Int} (h0 : 0 ≤ j) (h1 : j < 4) : Txt.item (S "aAbB") j = sgn j := by
  rcases four_cases h0 h1 with rfl | rfl | rfl | rfl <;> decide +kernel
def Sgn (z : SStr) : Prop := ∃ c, Abc c ∧ z = ⟨#[c]⟩
theorem sgn_is (a : Int) : Sgn (sgn (a.fmod 4)) := by
  have h0 : 0 ≤ a.fmod 4 := Int.fmod_nonneg_of_pos _ (by decide)
  have h1 : a.fmod 4 < 4 := Int.fmod_lt_of_pos _ (by decide)
  refine ⟨_, ?_, rfl⟩
  rcases four_cases h0 h1 with e | e | e | e <;> rw [e] <;> simp [Abc]
theorem sign_at {prog : Program} {w : World} {A : Around} {E : Value → Shared → Prop} {s : Shared} {value slice : PySem.Expr} {x : SStr} {t u : Tok} {a : Int} {Q : Value → Shared → Prop} (hx : x = S "aAbB")
    (h : ∀ z tok tk', Sgn z → Q (.str z tok) { s with toks := tk' })
    (hs : subscripted slice false (.str x t) (.int (a.fmod 4) u) = operate [.str x t, .int (a.fmod 4) u] (getItem (.str x t) (.int (a.fmod 4) u)))
    (ht : ∀ r, letTemporaryGo value (.str x t) r = pure ()) :
    wpAny (model prog w) A (subscriptTail value slice (.str x t) (.int (a.fmod 4) u)) Q E s := by
  have h0 : 0 ≤ a.fmod 4 := Int.fmod_nonneg_of_pos _ (by decide)
  have h1 : a.fmod 4 < 4 := Int.fmod_lt_of_pos _ (by decide)
  refine KXi.item (n := 4) (by rw [hx]; decide +kernel) (by omega) (by omega) (by decide) (fun _ => ?_) hs ht
  rw [hx, sgn_item h0 h1]
  exact h _ _ _ (sgn_is a)
theorem item_made {prog : Program} {w : World} {A : Around} {E : Value → Shared → Prop} {s : Shared} {h₀ : Heap} {L l : Addr} {news : Led} {value slice : PySem.Expr} {vs : List Value} {n : Nat} {k : Int} {u : Tok} {v : Value} {Q : Value → Shared → Prop}
    (N : News h₀ L s.heap news) (hm : (l, PySem.W.listOf vs.toArray n) ∈ news) (h0 : 0 ≤ k) (hhi : k < 2 ^ 63) (hx : vs[k.toNat]? = some v) (h : Q v s)
    (hs : subscripted slice false (.ref l) (.int k u) = operate [.ref l, .int k u] (getItem (.ref l) (.int k u))) :
    wpAny (model prog w) A (subscriptTail value slice (.ref l) (.int k u)) Q E s :=
  tail_any (News.isList N hm).typeIs slot_list_getitem.lookup (wpAny_getItem_list (News.isList N hm) h0 hhi (by simpa using hx) h) hs
theorem sgns_cps : ∀ {xs : List SStr}, (∀ z ∈ xs, Sgn z) → ∃ cs : List Nat, xs = cs.map (fun c => (⟨#[c]⟩ : SStr)) ∧ ∀ c ∈ cs, Abc c
  | [], _ => ⟨[], rfl, by simp⟩
  | z :: xs, h => by
    obtain ⟨cs, e, hc⟩ := sgns_cps fun y hy => h y (.tail _ hy)
    obtain ⟨c, hac, ez⟩ := h z (.head _)
    refine ⟨c :: cs, by rw [List.map_cons, ez, e], ?_⟩
    intro y hy
    rcases List.mem_cons.mp hy with rfl | hy
    · exact hac
    · exact hc y hy
theorem join_cps (cs : List Nat) : Txt.join (S "") (cs.map fun c => (⟨#[c]⟩ : SStr)) = ⟨cs.toArray⟩ := by
  show PySem.Builtin.Str.glued (S "") (cs.map fun c => (⟨#[c]⟩ : SStr)) = _
  rw [PySem.StrLaws.glued_eq_join]
  exact PyProof.Rows.join_ones cs
theorem join_sgns {prog : Program} {w : World} {A : Around} {E : Value → Shared → Prop} {s : Shared} {D : Addr} {ys : List Value} {xs : List SStr} {t : Tok} {Q : Value → Shared → Prop} (hl : s.heap.IsList D ys.toArray) (hc : StrsAre ys xs) (hn : xs.length ≤ 5) (hs : ∀ z ∈ xs, Sgn z)
    (h : ∀ wd t' tk, Good wd → wd = Txt.join (S "") xs → Q (.str wd t') { s with toks := tk }) : wpAny (model prog w) A (call (.builtin "str.join") [.str (S "") t, .ref D]) Q E s := by
  obtain ⟨cs, e, hab⟩ := sgns_cps hs
  have hj : Txt.join (S "") xs = ⟨cs.toArray⟩ := by rw [e, join_cps]
  have hlen : xs.length = cs.length := by rw [e, List.length_map]
  refine KT.join_1 (g := fun z : SStr => z) (l := xs) hl hc.carried ?_ (by omega) fun t' k _ => ?_
  · intro z hz
    obtain ⟨c, _, ez⟩ := hs z hz
    rw [ez]; rfl
  · rw [List.map_id']
    refine h _ t' k ?_ rfl
    show Good (Txt.join (S "") xs)
    rw [hj]
    exact ⟨by show cs.toArray.size ≤ 5; rw [List.size_toArray]; omega, by intro c hc; exact hab c (by simpa using hc)⟩
theorem range_n {c : Int} : Builtin.Range.rangeSize 0 (c.fmod 6) 1 = (((c.fmod 6).toNat : Nat) : Int) := by
  have e := rangeSize_nat 0 (c.fmod 6)
  rw [Int.sub_zero] at e
  exact e
theorem comp_range6 {prog : Program} {w : World} {A : Around} {h₀ : Heap} {L : Addr} {m : SStr → Option Value} {env : Env} {elt : PySem.Expr} {x : SStr} {scope : Scope} {cl : List (SStr × Addr)} {Fin : Shared → List Value → Led → Prop} {r : Addr} {c : Int} {t u v : Tok} {news : Led} {s₁ : Shared}
    (hh : A.handled = none) (F : Fr h₀ L s₁.heap m) (N : News h₀ L s₁.heap news) (hr : IsRange s₁.heap r 0 (c.fmod 6) 1 t u v)
    (turn : ∀ k t' I oI C oC D m₂ ys h tk g (E' : Value → Shared → Prop), 0 ≤ k → k ≤ 5 → LCg.NsObj oC m₂ → m₂ x = some (.int k t') → Fr h₀ L h m → News h₀ L h ((I, oI) :: (C, oC) :: (D, LCg.lst ys) :: news) → LCg.Off3 I C D news → ((@Ne Nat I C) ∧ (@Ne Nat I D) ∧ (@Ne Nat C D)) →
      wpAny (model prog w) A (eval elt (compEnvC scope cl C env)) (LCg.CompEnd h₀ L m { { s₁ with heap := g } with heap := h, toks := tk } I oI C oC D (LCg.lst ys) (fun _ => True) (fun y news' => ElP Sgn news y news')) E' { { s₁ with heap := g } with heap := h, toks := tk })
    (fin : ∀ g ys xs, StrsAre ys xs → xs.length ≤ 5 → (∀ z ∈ xs, Sgn z) → Fin { s₁ with heap := g } ys news) :
    LCg.CompSrc prog w A h₀ L m env elt x scope cl Fin (.ref r) s₁ := by
  have h0 : 0 ≤ c.fmod 6 := Int.fmod_nonneg_of_pos _ (by decide)
  have h1 : c.fmod 6 < 6 := Int.fmod_lt_of_pos _ (by decide)
  refine LCg.CompSrc.range hh F N hr (small_one (by omega) (by omega) (by omega) (by omega)) range_n (by rw [PySem.sizeLine_eq]; omega) fun g => ?_
  refine rest_gen (fun _ => Sgn) ?_ ?_
  · intro i v' I oI C oC D m₂ ys h tk E' hi hP hC hx F' N' off ne
    obtain ⟨t', e⟩ := hP
    subst e
    exact turn _ _ _ _ _ _ _ _ _ _ _ _ _ (by omega) (by omega) hC hx F' N' off ne
  · intro ys xs hy hl hp
    refine fin g ys xs hy (by omega) fun z hz => ?_
    obtain ⟨i, hi⟩ := List.mem_iff_getElem?.mp hz
    exact hp i z hi
theorem pow4_ne {k : Nat} : (4 : Int) ^ k ≠ 0 := Int.pow_ne_zero (by decide)
theorem pow4_log {k : Int} (hn : k ≤ 5) : ((4 : Int) ^ k.toNat).natAbs.log2 < 9000 := by
  have h5 : k.toNat ≤ 5 := by omega
  have : k.toNat = 0 ∨ k.toNat = 1 ∨ k.toNat = 2 ∨ k.toNat = 3 ∨ k.toNat = 4 ∨ k.toNat = 5 := by omega
  rcases this with e | e | e | e | e | e <;> rw [e] <;> decide +kernel
theorem k_le5 {k : Int} (hn : k ≤ 5) : k ≤ 1000000 := by omega
theorem comp_end_str {h₀ : Heap} {L I C D : Addr} {m : SStr → Option Value} {s₁ : Shared} {oI oC oD : Obj} {h' : Heap} {tk : Nat} {news : Led} {z : SStr} {t : Tok} {Ps : SStr → Prop} (F : Fr h₀ L h' m) (N : News h₀ L h' ((I, oI) :: (C, oC) :: (D, oD) :: news)) (off : LCg.Off3 I C D news) (hz : Ps z) :
    LCg.CompEnd h₀ L m s₁ I oI C oC D oD (fun _ => True) (fun y news' => ElP Ps news y news') (.str z t) { s₁ with heap := h', toks := tk } :=
  LCg.CompEnd.intro F N news (fun _ hp => hp) off True.intro ⟨rfl, _, _, rfl, hz⟩
end Mine
namespace Mine
theorem eqGives_none (a : SStr) (t : Tok) : MeetsSeq.EqGives (.str a t) .none false := by
  intro prog w A E s Q h
  unfold eqBool
  show wpAny _ _ (richCompare CmpOp.Eq (Value.str a t) Value.none >>= fun r => truthOfDropped r) Q E s
  refine wpAny_bind ?_
  exact PySem.EqNone.eq_str_none (wpAny_truthy_bool h)
theorem none_in3 {prog : Program} {w : World} {A : Around} {E : Value → Shared → Prop} {s : Shared} {h₀ : Heap} {L l : Addr} {news : Led} {a b c : SStr} {t1 t2 t3 : Tok} {n : Nat} {Q : Value → Shared → Prop} (N : News h₀ L s.heap news) (hm : (l, PySem.W.listOf [Value.str a t1, .str b t2, .str c t3].toArray n) ∈ news) (h : Q (.bool false) s) :
    wpAny (model prog w) A (compareOp .In .none (.ref l)) Q E s := by
  refine SeqInW.in_listW (fun _ => false) ?_ (News.isList N hm) ?_
  · intro y hy
    simp only [List.mem_toArray, List.mem_cons, List.not_mem_nil, or_false] at hy
    rcases hy with rfl | rfl | rfl <;> exact eqGives_none _ _
  · simpa using h
end Mine
namespace Mine
theorem ne_same {prog : Program} {w : World} {A : Around} {E : Value → Shared → Prop} {s : Shared} {x : SStr} {t u : Tok} {Q : Value → Shared → Prop} (h : Q (.bool false) s) : wpAny (model prog w) A (compareOp .NotEq (.str x t) (.str x u)) Q E s := by
  refine PyProof.Rows.ne_str ?_
  simpa using h
end Mine
end
section
open PySem PySem.W PyProof.Rows PySem.Spec PySem.Calls
namespace Mine
variable {KK : PySem.Params → Frag} {qq : Program}

def PairS (z : SStr) : Prop := ∃ a b, z.cps.toList = [a, b] ∧ inv2 a b = true
def NoneHere (h₀ : Heap) (L : Addr) (m : SStr → Option Value) (s₁ : Shared) (I : Addr) (oI : Obj) (C : Addr) (oC : Obj) (D : Addr) (oD : Obj) (news : Led) (ok : Bool) (s' : Shared) : Prop :=
  ok = false ∧ ∃ h' tk, s' = { s₁ with heap := h', toks := tk } ∧ Fr h₀ L h' m ∧ News h₀ L h' ((I, oI) :: (C, oC) :: (D, oD) :: news)
theorem NoneHere.intro {h₀ : Heap} {L I C D : Addr} {m : SStr → Option Value} {s₁ : Shared} {oI oC oD : Obj} {h' : Heap} {tk : Nat} {news : Led} (F : Fr h₀ L h' m) (N : News h₀ L h' ((I, oI) :: (C, oC) :: (D, oD) :: news)) :
    NoneHere h₀ L m s₁ I oI C oC D oD news false { s₁ with heap := h', toks := tk } := ⟨rfl, h', tk, rfl, F, N⟩
section
variable {prog : Program} {w : World} {A : Around} {E : Value → Shared → Prop} {s : Shared} {h₀ : Heap} {L : Addr} {m : SStr → Option Value} {env : Env}
theorem restT_none {ct elt : PySem.Expr} {x : SStr} {scope : Scope} {cl : List (SStr × Addr)} {S : Led → Prop} {P : Nat → Value → Prop} {Fin : List Value → Led → Prop} {news : Led} {n : Nat} {Pv : Value → Prop} (hP : ∀ i v, P i v → Pv v) (hS : S news)
    (turn : ∀ v I oI C oC D m₂ h tk (E' : Value → Shared → Prop), Pv v → LCg.NsObj oC m₂ → m₂ x = some v → Fr h₀ L h m → News h₀ L h ((I, oI) :: (C, oC) :: (D, LCg.lst []) :: news) → LCg.Off3 I C D news → ((@Ne Nat I C) ∧ (@Ne Nat I D) ∧ (@Ne Nat C D)) →
      wpAny (model prog w) A (isTrue ct (compEnvC scope cl C env) (eval ct (compEnvC scope cl C env))) (NoneHere h₀ L m { s with heap := h, toks := tk } I oI C oC D (LCg.lst []) news) E' { s with heap := h, toks := tk })
    (fin : Fin [] news) : ∀ i, LCt.CompRestT prog w A h₀ L m env ct elt x scope cl s S P Fin n i [] news := by
  induction n with
  | zero => intro i; exact LCt.CompRestT.zero fin
  | succ k ih =>
    intro i
    refine LCt.CompRestT.succ ?_
    intro v I oI C oC D m₂ h tk E' hv hC hx F N off ne
    refine wpAny_mono (turn v I oI C oC D m₂ h tk E' (hP i v hv) hC hx F N off ne) (fun ok s' hq => ?_) fun _ _ e => e
    obtain ⟨rfl, h', tk', rfl, F', N'⟩ := hq
    simp only [Bool.false_eq_true, if_false]
    exact ⟨h', tk', news, rfl, F', N', off, hS, ih (i + 1)⟩
def PairSrc (prog : Program) (w : World) (A : Around) (h₀ : Heap) (L : Addr) (m : SStr → Option Value) (env : Env) (ct : PySem.Expr) (x : SStr) (scope : Scope) (cl : List (SStr × Addr)) (Q : Value → Shared → Prop) (xv : Value) (s₁ : Shared) : Prop :=
  ∃ (ax : Addr) (o : Obj) (vs : List Value) (k : Nat) (zs : List SStr) (news : Led), xv = .ref ax ∧ A.handled = none ∧ Fr h₀ L s₁.heap m ∧ News h₀ L s₁.heap news ∧ (ax, o) ∈ news ∧ (o.cls = .type "tuple" ∧ o.data = .seq vs.toArray k) ∧ StrsAre vs zs ∧ (∀ z ∈ zs, PairS z) ∧ vs.length ≤ 1000 ∧
    (∀ z t I oI C oC D m₂ h tk (E' : Value → Shared → Prop), PairS z → LCg.NsObj oC m₂ → m₂ x = some (.str z t) → Fr h₀ L h m → News h₀ L h ((I, oI) :: (C, oC) :: (D, LCg.lst []) :: news) → LCg.Off3 I C D news → ((@Ne Nat I C) ∧ (@Ne Nat I D) ∧ (@Ne Nat C D)) →
      wpAny (model prog w) A (isTrue ct (compEnvC scope cl C env) (eval ct (compEnvC scope cl C env))) (NoneHere h₀ L m { s₁ with heap := h, toks := tk } I oI C oC D (LCg.lst []) news) E' { s₁ with heap := h, toks := tk }) ∧
    (∀ D h tk, Fr h₀ L h m → News h₀ L h ((D, LCg.lst []) :: news) → LCg.Off1 D news → Q (.ref D) { s₁ with heap := h, toks := tk })
theorem strs_mem : ∀ {vs : List Value} {zs : List SStr}, StrsAre vs zs → ∀ v ∈ vs, ∃ z ∈ zs, ∃ t, v = .str z t
  | _, _, .nil, v, hv => nomatch hv
  | _, _, .cons z t r, v, hv => by
    rcases List.mem_cons.mp hv with rfl | hv
    · exact ⟨z, .head _, t, rfl⟩
    · obtain ⟨z', hz', t', e⟩ := strs_mem r v hv
      exact ⟨z', .tail _ hz', t', e⟩
theorem ListComp_none {ct elt iter : PySem.Expr} {x : SStr} {px : Pos} {scope : Scope} {cl : List (SStr × Addr)} {pos : Pos} {Q : Value → Shared → Prop} (_F₀ : Fr h₀ L s.heap m)
    (hclos : closureFor scope env = pure cl) (hcell : ∀ y ∈ scope.names, y.2 ≠ .cell) (hkind : scope.kind = .function)
    (hnames : ∀ y ∈ scope.names, y.2 = .local → scope.names.lookup y.1 = some .local) (hx : scope.names.lookup x = some .local)
    (hs : ∀ x, foldedSetIterable iter env x = pure x)
    (h : wpAny (model prog w) A (eval iter env) (PairSrc prog w A h₀ L m env ct x scope cl Q) E s) :
    wpAny (model prog w) A (eval (.ListComp elt [⟨.Name x px, iter, [ct], 0⟩] scope pos) env) Q E s := by
  rw [eval_ListComp]
  refine wpAny_comprehension_free (use := none) rfl hs hclos hkind hnames (wpAny_mono h (fun xv s₁ h₁ => ?_) fun _ _ e => e)
  obtain ⟨ax, o, vs, k, zs, news, rfl, hh, F, N, hm, ⟨hc, hd⟩, hi, hz, hsz, turn, fin⟩ := h₁
  have hl : s₁.heap.IsTuple ax vs.toArray := ⟨o, (N _ hm).1, hc, k, hd⟩
  have hlt : ax < s₁.heap.objs.size := Heap.lt_size (N _ hm).1
  refine wpAny_pyIter_tuple hl ?_
  have up : ∀ b o', s₁.heap.get? b = some o' → (s₁.heap.push { cls := .type "tuple_iterator", data := .fields #[.ref ax, .int 0 0] }).get? b = some o' := fun b o' e => Heap.get?_push_of_some _ e
  refine LCt.block_T (S := fun nw => (ax, o) ∈ nw) (Walks.tuple hh s₁.heap.objs.size ax (Nat.ne_of_lt hlt) vs.toArray) (by rw [List.size_toArray, PySem.sizeLine_eq]; omega) (fun i h st => by obtain ⟨o', e, _⟩ := st.1; exact ⟨o', e⟩) ?_ hcell hkind hx ⟨⟨_, Heap.get?_push_size _ rfl, rfl, rfl⟩, hl.at fun o' e => Heap.get?_push_of_some _ e⟩ (fun b hb => ?_)
    (F.keeps up) (N.grown up) (Nat.ne_of_lt F.ns.lt) (next_is_new F) (fun p hp => Nat.ne_of_lt (Heap.lt_size (N p hp).1)) hm
    (restT_none (Fin := LCg.FinE h₀ L m { s₁ with heap := s₁.heap.push { cls := .type "tuple_iterator", data := .fields #[.ref ax, .int 0 0] } } Q) (Pv := fun v => ∃ z t, v = .str z t ∧ PairS z) (fun i v hv => ?_) hm (fun v I oI C oC D m₂ h tk E' hv hC hx' F' N' off ne => ?_) ?_ 0) ?_
  · intro i h' h'' o' nw st e1 e2 hk N' hS
    refine ⟨?_, ⟨o, (N' _ hS).1, hc, k, hd⟩⟩
    obtain ⟨o2, q, r⟩ := st.1
    rw [e1] at q
    cases q
    exact ⟨o', e2, r⟩
  · show b < (s₁.heap.push _).objs.size
    rw [Heap.size_push]
    rcases List.mem_cons.mp hb with rfl | hb
    · exact Nat.lt_succ_self _
    · rw [List.mem_singleton.mp hb]; exact Nat.lt_succ_of_lt hlt
  · have hv' : vs.toArray[i]? = some v := hv
    rw [List.getElem?_toArray] at hv'
    obtain ⟨z, hzm, t, e⟩ := strs_mem hi v (List.mem_of_getElem? hv')
    exact ⟨z, t, e, hz z hzm⟩
  · obtain ⟨z, t, rfl, hp⟩ := hv
    exact turn z t I oI C oC D m₂ h tk E' hp hC hx' F' N' off ne
  · intro D h tk F' N' o1
    exact fin D h tk F' N' o1
  · intro D C h tk m' ys news' F' N' o1 hn hC₀ hD₀ hCL hDL hCD offC fin'
    refine ⟨m', hn, fun h'' hs'' => fin' D h'' tk (F'.change hs'' hCL hC₀) (fun p hp => ?_) o1⟩
    refine ⟨hs''.extBut _ _ ?_ (N' p hp).1, (N' p hp).2⟩
    rcases List.mem_cons.mp hp with rfl | hp
    · exact Ne.symm hCD
    · exact offC p hp
theorem PairSrc.intro {ct : PySem.Expr} {x : SStr} {scope : Scope} {cl : List (SStr × Addr)} {Q : Value → Shared → Prop} {ax : Addr} {o : Obj} {vs : List Value} {k : Nat} {zs : List SStr} {news : Led} {s₁ : Shared} (hh : A.handled = none) (F : Fr h₀ L s₁.heap m) (N : News h₀ L s₁.heap news) (hm : (ax, o) ∈ news) (hc : o.cls = .type "tuple" ∧ o.data = .seq vs.toArray k) (hi : StrsAre vs zs) (hz : ∀ z ∈ zs, PairS z) (hsz : vs.length ≤ 1000)
    (turn : ∀ z t I oI C oC D m₂ h tk (E' : Value → Shared → Prop), PairS z → LCg.NsObj oC m₂ → m₂ x = some (.str z t) → Fr h₀ L h m → News h₀ L h ((I, oI) :: (C, oC) :: (D, LCg.lst []) :: news) → LCg.Off3 I C D news → ((@Ne Nat I C) ∧ (@Ne Nat I D) ∧ (@Ne Nat C D)) →
      wpAny (model prog w) A (isTrue ct (compEnvC scope cl C env) (eval ct (compEnvC scope cl C env))) (NoneHere h₀ L m { s₁ with heap := h, toks := tk } I oI C oC D (LCg.lst []) news) E' { s₁ with heap := h, toks := tk })
    (fin : ∀ D h tk, Fr h₀ L h m → News h₀ L h ((D, LCg.lst []) :: news) → LCg.Off1 D news → Q (.ref D) { s₁ with heap := h, toks := tk }) :
    PairSrc prog w A h₀ L m env ct x scope cl Q (.ref ax) s₁ := ⟨ax, o, vs, k, zs, news, rfl, hh, F, N, hm, hc, hi, hz, hsz, turn, fin⟩
end
theorem strs4 {a b c d : SStr} {t1 t2 t3 t4 : Tok} : StrsAre [.str a t1, .str b t2, .str c t3, .str d t4] [a, b, c, d] := .cons _ _ (.cons _ _ (.cons _ _ (.cons _ _ .nil)))
theorem pairs4 : ∀ z ∈ [S "aA", S "Aa", S "bB", S "Bb"], PairS z := by
  intro z hz
  simp only [List.mem_cons, List.not_mem_nil, or_false] at hz
  rcases hz with rfl | rfl | rfl | rfl
  · exact ⟨97, 65, by decide +kernel, by decide⟩
  · exact ⟨65, 97, by decide +kernel, by decide⟩
  · exact ⟨98, 66, by decide +kernel, by decide⟩
  · exact ⟨66, 98, by decide +kernel, by decide⟩
def IsEnd (word x : SStr) : Prop := x = nfS word
theorem in_nf {prog : Program} {w : World} {A : Around} {E : Value → Shared → Prop} {s : Shared} {word x z : SStr} {t u : Tok} {Q : Value → Shared → Prop} (hz : PairS z) (hx : IsEnd word x) (h : Q (.bool false) s) :
    wpAny (model prog w) A (compareOp .In (.str z u) (.str x t)) Q E s := by
  obtain ⟨a, b, e, hi⟩ := hz
  unfold IsEnd at hx
  subst hx
  refine PyProof.Rows.in_str ?_
  rw [no_pair e hi]
  exact h
theorem end_new (En : end_claim_C KK qq) (PL : PlainLaw) (w : World) (mean : ExcName → Option Value) (mg mb : SStr → Option Value) {word : SStr} {begin' : Int} {ts tb : Tok} {news : Led} {vs : List Value} (hw : Good word) (hb : 0 ≤ begin' ∧ begin' ≤ 40) (e : vs = [.str word ts, .int begin' tb]) :
    LClaim KK qq 70 w mean mg mb 467 news vs (fun r news' => Sub news news' ∧ ∃ x tok, r = .str x tok ∧ IsEnd word x) := by
  subst e
  refine (En PL w mean mg mb word begin' ts tb news hw hb).use (fun p hp => hp) ?_
  rintro r a ⟨hs, tok, e⟩
  exact ⟨a, fun p hp => hp, hs, _, tok, e, rfl⟩
theorem end_old (En : end_claim_C KK qq) (PL : PlainLaw) (w : World) (mean : ExcName → Option Value) (mg mb : SStr → Option Value) {word x : SStr} {begin' : Int} {ts tb : Tok} {news : Led} {vs : List Value} (hw : Good word) (hx : IsEnd word x) (hb : 0 ≤ begin' ∧ begin' ≤ 40) (e : vs = [.str word ts, .int begin' tb]) :
    LClaim KK qq 70 w mean mg mb 467 news vs (fun r news' => Sub news news' ∧ ∃ tok, r = .str x tok) := by
  subst e
  unfold IsEnd at hx
  subst hx
  refine (En PL w mean mg mb word begin' ts tb news hw hb).use (fun p hp => hp) ?_
  rintro r a ⟨hs, tok, e⟩
  exact ⟨a, fun p hp => hp, hs, tok, e⟩
theorem keep3 {h₀ h : Heap} {L : Addr} {e0 e1 e2 e3 e4 e5 e6 e7 e8 e9 e10 e11 : Addr × Obj} {r : Led} (N : News h₀ L h (e0 :: e1 :: e2 :: e3 :: e4 :: e5 :: e6 :: e7 :: e8 :: e9 :: e10 :: e11 :: r)) : News h₀ L h [e0, e4, e11] := by
  refine cb_drop N ?_
  intro p hp
  simp only [List.mem_cons, List.not_mem_nil, or_false] at hp ⊢
  rcases hp with rfl | rfl | rfl <;> simp
theorem keepT {h₀ h : Heap} {L : Addr} {e0 e1 e2 : Addr × Obj} {r : Led} (N : News h₀ L h (e0 :: e1 :: e2 :: r)) : News h₀ L h r :=
  cb_drop N fun p hp => .tail _ (.tail _ (.tail _ hp))
theorem beg0 {c : Int} : 0 ≤ c.fmod 30 ∧ c.fmod 30 ≤ 40 := by
  have h0 : 0 ≤ c.fmod 30 := Int.fmod_nonneg_of_pos _ (by decide)
  have h1 : c.fmod 30 < 30 := Int.fmod_lt_of_pos _ (by decide)
  omega
theorem beg1 {c : Int} : 0 ≤ c.fmod 30 + 1 ∧ c.fmod 30 + 1 ≤ 40 := by
  have h := beg0 (c := c)
  have h1 : c.fmod 30 < 30 := Int.fmod_lt_of_pos _ (by decide)
  omega
end Mine
end
section
open PySem PySem.W PyProof.Rows
namespace Mine
variable {KK : PySem.Params → Frag} {qq : Program}

def IsGrid (word : SStr) (p q r s : Int) : Prop := gridF (KStt.codes word) = (p, q, r, s)
theorem grid_new (Gr : grid_claim_C KK qq) (w : World) (mean : ExcName → Option Value) (mg mb : SStr → Option Value) {word : SStr} {ts : Tok} {news : Led} {vs : List Value} (hg : Good word) (e : vs = [.str word ts]) :
    LClaim KK qq 20 w mean mg mb 460 news vs (fun x news' => ∃ p q r s d t1 t2 t3 t4, x = .ref d ∧ IsGrid word p q r s ∧ Sub ((d, tup #[.int p t1, .int q t2, .int r t3, .int s t4]) :: news) news') := by
  refine (grid_plain Gr w mean mg mb hg (rfl : gridF (KStt.codes word) = gridF (KStt.codes word)) e).use (fun p hp => hp) ?_
  rintro x a ⟨d, t1, t2, t3, t4, e, hs⟩
  exact ⟨a, fun p hp => hp, _, _, _, _, d, t1, t2, t3, t4, e, rfl, hs⟩
theorem eq_grids {prog : Program} {w : World} {A : Around} {E : Value → Shared → Prop} {s : Shared} {h₀ : Heap} {L d e : Addr} {news : Led} {u v x y : SStr} {p q r z p' q' r' z' : Int} {t1 t2 t3 t4 u1 u2 u3 u4 : Tok} {Q : Value → Shared → Prop} (N : News h₀ L s.heap news)
    (h1 : (d, tup #[.int p t1, .int q t2, .int r t3, .int z t4]) ∈ news) (h2 : (e, tup #[.int p' u1, .int q' u2, .int r' u3, .int z' u4]) ∈ news) (g1 : IsGrid u p q r z) (g2 : IsGrid v p' q' r' z') (hu : Good u) (hv : Good v) (hx : IsEnd u x) (hy : IsEnd v y) (hun : A.units + 64 < cLine) (h : Q (.bool (x == y)) s) :
    wpAny (model prog w) A (compareOp .Eq (.ref d) (.ref e)) Q E s := by
  refine eq_dataH (da := .tuple [.int p, .int q, .int r, .int z]) (db := .tuple [.int p', .int q', .int r', .int z']) (reads_tuple_at (News.get N h1) rfl rfl (ReadsAll.cons (Reads.int _ _) (ReadsAll.cons (Reads.int _ _) (ReadsAll.cons (Reads.int _ _) (ReadsAll.cons (Reads.int _ _) ReadsAll.nil)))))
    (reads_tuple_at (News.get N h2) rfl rfl (ReadsAll.cons (Reads.int _ _) (ReadsAll.cons (Reads.int _ _) (ReadsAll.cons (Reads.int _ _) (ReadsAll.cons (Reads.int _ _) ReadsAll.nil))))) rfl rfl hun ?_
  have e2 : PyData.eqv (.tuple [.int p, .int q, .int r, .int z]) (.tuple [.int p', .int q', .int r', .int z']) = (x == y) := by
    unfold IsGrid at g1 g2
    unfold IsEnd at hx hy
    have k := nfS_iff hu hv
    rw [g1, g2, ← hx, ← hy] at k
    rw [Bool.eq_iff_iff, beq_iff_eq, k]
    simp [PyData.eqv, PyData.eqvAll]
  rw [e2]
  exact h
theorem ne_bool_same {prog : Program} {w : World} {A : Around} {E : Value → Shared → Prop} {s : Shared} {b : Bool} {Q : Value → Shared → Prop} (h : Q (.bool false) s) : wpAny (model prog w) A (compareOp .NotEq (.bool b) (.bool b)) Q E s := by
  refine ne_bool ?_
  simpa using h
theorem eq_strs {prog : Program} {w : World} {A : Around} {E : Value → Shared → Prop} {s : Shared} {x y : SStr} {t u : Tok} {Q : Value → Shared → Prop} (h : Q (.bool (x == y)) s) : wpAny (model prog w) A (compareOp .Eq (.str x t) (.str y u)) Q E s := PyProof.Rows.eq_str h
end Mine
namespace Mine
theorem keepW {h₀ h : Heap} {L : Addr} {e0 e1 e2 e3 e4 e5 e6 e7 e8 e9 e10 : Addr × Obj} {r : Led} (N : News h₀ L h (e0 :: e1 :: e2 :: e3 :: e4 :: e5 :: e6 :: e7 :: e8 :: e9 :: e10 :: r)) : News h₀ L h [e10] := by
  refine cb_drop N ?_
  intro p hp
  simp only [List.mem_cons, List.not_mem_nil, or_false] at hp ⊢
  subst hp
  simp
end Mine
end
section
open PySem PySem.W PyProof.Rows PySem.Spec PySem.Calls
namespace Mine
variable {KK : PySem.Params → Frag} {qq : Program}

def Two (x : SStr) (cs : List Nat) : Prop := x = ⟨cs.toArray⟩ ∧ cs.length ≤ 2 ∧ ∀ c ∈ cs, Abc c
theorem cut_le {j : Int} (x : SStr) (h : (x.length : Int) ≤ j) : (Txt.slice x none (some j)).cps.toList = x.cps.toList := by
  have e : Txt.slice x none (some j) = PySem.StrLaws.sliceText x none (some (x.length : Int)) := by
    rw [slice_eq]
    unfold PySem.StrLaws.sliceText
    rw [idx_clamp none h]
  rw [e, PySem.StrLaws.sliceText_to ⟨by omega, by rw [← len_list']; exact Int.le_refl _⟩]
  simp only [List.drop_zero, Int.sub_zero, Int.toNat_natCast, List.toList_toArray]
  exact List.take_of_length_le (by rw [len_list']; exact Nat.le_refl _)
theorem cut_two {x : SStr} (hg : Good x) : ∃ cs, Two (Txt.slice x none (some 2)) cs := by
  by_cases h : (x.length : Int) ≤ 2
  · refine ⟨x.cps.toList, ?_, ?_, hg.abc⟩
    · exact str_list (cut_le x h)
    · rw [← len_list']; omega
  · refine ⟨x.cps.toList.take 2, ?_, ?_, fun c hc => hg.abc c (List.mem_of_mem_take hc)⟩
    · rw [slice_eq]
      exact PySem.StrLaws.sliceText_to (j := 2) ⟨by omega, by rw [← len_list']; omega⟩
    · rw [List.length_take]; omega
theorem slice_two {prog : Program} {w : World} {A : Around} {E : Value → Shared → Prop} {s : Shared} {h₀ : Heap} {L : Addr} {m : SStr → Option Value} {news : Led} {value slice : PySem.Expr} {x : SStr} {t : Tok} {uj : Tok} {Q : Value → Shared → Prop} (hF : Fr h₀ L s.heap m) (hN : News h₀ L s.heap news) (hg : Good x)
    (h : ∀ one cs h' t' k, Two one cs → Fr h₀ L h' m → News h₀ L h' news → Q (.str one t') { s with heap := h', toks := k })
    (hs : subscripted slice false (.str x t) (.ref s.heap.objs.size) = operate [.ref s.heap.objs.size, .str x t] (getItem (.str x t) (.ref s.heap.objs.size)))
    (ht : ∀ r, letTemporaryGo value (.str x t) r = pure ()) :
    wpAny (model prog w) A (subscriptTail value slice (.str x t) (.ref s.heap.objs.size)) Q E { s with heap := s.heap.push { cls := .type "slice", data := .fields #[.none, .int 2 uj, .none] } } := by
  obtain ⟨cs, hc⟩ := cut_two hg
  refine slice_strN_ns hF hN (fun h' t' k F' N' => h _ cs h' t' k hc F' N') hs ht ?_
  have := hg.len
  rw [sizeLine_eq]; omega
theorem rev_two {x : SStr} {cs : List Nat} {u : Tok} (h : Two x cs) : Txt.sliceBy x none none (-1, u) = ⟨cs.reverse.toArray⟩ := by
  refine str_list ?_
  rw [← fold_front_eq_rev x ⟨#[]⟩ rfl u, fold_front_list x ⟨#[]⟩ rfl, h.1]
theorem slice_rev {prog : Program} {w : World} {A : Around} {E : Value → Shared → Prop} {s : Shared} {h₀ : Heap} {L : Addr} {m : SStr → Option Value} {news : Led} {value slice : PySem.Expr} {x : SStr} {cs : List Nat} {t : Tok} {uj : Tok} {Q : Value → Shared → Prop} (hF : Fr h₀ L s.heap m) (hN : News h₀ L s.heap news) (hg : Two x cs)
    (h : ∀ rv h' t' k, Two rv cs.reverse → Fr h₀ L h' m → News h₀ L h' news → Q (.str rv t') { s with heap := h', toks := k })
    (hs : subscripted slice false (.str x t) (.ref s.heap.objs.size) = operate [.ref s.heap.objs.size, .str x t] (getItem (.str x t) (.ref s.heap.objs.size)))
    (ht : ∀ r, letTemporaryGo value (.str x t) r = pure ()) :
    wpAny (model prog w) A (subscriptTail value slice (.str x t) (.ref s.heap.objs.size)) Q E { s with heap := s.heap.push { cls := .type "slice", data := .fields #[.none, .none, .int (-1) uj] } } := by
  refine slice_strK_nn hF hN (by decide) (fun h' t' k F' N' => h _ h' t' k ?_ F' N') hs ht ?_
  · exact ⟨rev_two hg, by rw [List.length_reverse]; exact hg.2.1, fun c hc => hg.2.2 c (List.mem_reverse.mp hc)⟩
  · obtain ⟨rfl, hl, _⟩ := hg
    show cs.toArray.size ≤ sizeLine
    rw [List.size_toArray, sizeLine_eq]
    omega
theorem abc_cases {c : Nat} (h : Abc c) : c = 97 ∨ c = 65 ∨ c = 98 ∨ c = 66 := h
theorem idx_sign {prog : Program} {w : World} {A : Around} {E : Value → Shared → Prop} {s : Shared} {c : Nat} {t u : Tok} {Q : Value → Shared → Prop} (hA : A.handled = none) (hc : Abc c)
    (h : ∀ k tk, 0 ≤ k → k < 4 → Txt.item (S "AaBb") k = ⟨#[opp c]⟩ → Q (.int k s.toks) { s with toks := tk }) : wpAny (model prog w) A (call (.builtin "str.index") [.str (S "aAbB") t, .str ⟨#[c]⟩ u]) Q E s := by
  have key : 0 ≤ Txt.find (S "aAbB") ⟨#[c]⟩ ∧ Txt.find (S "aAbB") ⟨#[c]⟩ < 4 ∧ Txt.item (S "AaBb") (Txt.find (S "aAbB") ⟨#[c]⟩) = ⟨#[opp c]⟩ := by
    rcases abc_cases hc with rfl | rfl | rfl | rfl <;> decide +kernel
  refine index_or hA (fun e _ => ?_) fun _ _ => h _ _ key.1 key.2.1 key.2.2
  rw [e] at key
  exact absurd key.1 (by decide)
theorem item_opp {prog : Program} {w : World} {A : Around} {E : Value → Shared → Prop} {s : Shared} {value slice : PySem.Expr} {x : SStr} {t u : Tok} {k : Int} {c : Nat} {Q : Value → Shared → Prop} (hx : x = S "AaBb") (h0 : 0 ≤ k) (h1 : k < 4) (e : Txt.item (S "AaBb") k = ⟨#[opp c]⟩)
    (h : ∀ tok tk', Q (.str ⟨#[opp c]⟩ tok) { s with toks := tk' })
    (hs : subscripted slice false (.str x t) (.int k u) = operate [.str x t, .int k u] (getItem (.str x t) (.int k u)))
    (ht : ∀ r, letTemporaryGo value (.str x t) r = pure ()) :
    wpAny (model prog w) A (subscriptTail value slice (.str x t) (.int k u)) Q E s := by
  refine KXi.item (n := 4) (by rw [hx]; decide +kernel) (by omega) (by omega) (by decide) (fun _ => ?_) hs ht
  rw [hx, e]
  exact h _ _
def ElO (c : Nat) (news : Led) (y : Value) (news' : Led) : Prop := news' = news ∧ ∃ t, y = .str ⟨#[opp c]⟩ t
section
variable {prog : Program} {w : World} {A : Around} {E : Value → Shared → Prop} {s : Shared} {h₀ : Heap} {L : Addr} {m : SStr → Option Value} {env : Env}
def SignSrc (prog : Program) (w : World) (A : Around) (h₀ : Heap) (L : Addr) (m : SStr → Option Value) (env : Env) (elt : PySem.Expr) (x : SStr) (scope : Scope) (cl : List (SStr × Addr)) (Q : Value → Shared → Prop) (xv : Value) (s₁ : Shared) : Prop :=
  ∃ (y : SStr) (cs : List Nat) (u : Tok) (news : Led), xv = .str y u ∧ A.handled = none ∧ Fr h₀ L s₁.heap m ∧ News h₀ L s₁.heap news ∧ Two y cs ∧
    (∀ c t I oI C oC D m₂ ys h tk (E' : Value → Shared → Prop), Abc c → LCg.NsObj oC m₂ → m₂ x = some (.str ⟨#[c]⟩ t) → Fr h₀ L h m → News h₀ L h ((I, oI) :: (C, oC) :: (D, LCg.lst ys) :: news) → LCg.Off3 I C D news → ((@Ne Nat I C) ∧ (@Ne Nat I D) ∧ (@Ne Nat C D)) →
      wpAny (model prog w) A (eval elt (compEnvC scope cl C env)) (LCg.CompEnd h₀ L m { s₁ with heap := h, toks := tk } I oI C oC D (LCg.lst ys) (fun _ => True) (fun y news' => ElO c news y news')) E' { s₁ with heap := h, toks := tk }) ∧
    (∀ D h tk ys xs, StrsAre ys xs → xs = cs.map (fun c => (⟨#[opp c]⟩ : SStr)) → Fr h₀ L h m → News h₀ L h ((D, LCg.lst ys) :: news) → LCg.Off1 D news → Q (.ref D) { s₁ with heap := h, toks := tk })
theorem SignSrc.intro {elt : PySem.Expr} {x : SStr} {scope : Scope} {cl : List (SStr × Addr)} {Q : Value → Shared → Prop} {y : SStr} {cs : List Nat} {u : Tok} {news : Led} {s₁ : Shared} (hh : A.handled = none) (F : Fr h₀ L s₁.heap m) (N : News h₀ L s₁.heap news) (h2 : Two y cs)
    (turn : ∀ c t I oI C oC D m₂ ys h tk (E' : Value → Shared → Prop), Abc c → LCg.NsObj oC m₂ → m₂ x = some (.str ⟨#[c]⟩ t) → Fr h₀ L h m → News h₀ L h ((I, oI) :: (C, oC) :: (D, LCg.lst ys) :: news) → LCg.Off3 I C D news → ((@Ne Nat I C) ∧ (@Ne Nat I D) ∧ (@Ne Nat C D)) →
      wpAny (model prog w) A (eval elt (compEnvC scope cl C env)) (LCg.CompEnd h₀ L m { s₁ with heap := h, toks := tk } I oI C oC D (LCg.lst ys) (fun _ => True) (fun y news' => ElO c news y news')) E' { s₁ with heap := h, toks := tk })
    (fin : ∀ D h tk ys xs, StrsAre ys xs → xs = cs.map (fun c => (⟨#[opp c]⟩ : SStr)) → Fr h₀ L h m → News h₀ L h ((D, LCg.lst ys) :: news) → LCg.Off1 D news → Q (.ref D) { s₁ with heap := h, toks := tk }) :
    SignSrc prog w A h₀ L m env elt x scope cl Q (.str y u) s₁ := ⟨y, cs, u, news, rfl, hh, F, N, h2, turn, fin⟩
theorem ListComp_signs {elt iter : PySem.Expr} {x : SStr} {px : Pos} {scope : Scope} {cl : List (SStr × Addr)} {pos : Pos} {Q : Value → Shared → Prop} (_F₀ : Fr h₀ L s.heap m)
    (hclos : closureFor scope env = pure cl) (hcell : ∀ y ∈ scope.names, y.2 ≠ .cell) (hkind : scope.kind = .function)
    (hnames : ∀ y ∈ scope.names, y.2 = .local → scope.names.lookup y.1 = some .local) (hx : scope.names.lookup x = some .local)
    (hs : ∀ x, foldedSetIterable iter env x = pure x)
    (h : wpAny (model prog w) A (eval iter env) (SignSrc prog w A h₀ L m env elt x scope cl Q) E s) :
    wpAny (model prog w) A (eval (.ListComp elt [⟨.Name x px, iter, [], 0⟩] scope pos) env) Q E s := by
  rw [eval_ListComp]
  refine wpAny_comprehension_free (use := none) rfl hs hclos hkind hnames (wpAny_mono h (fun xv s₁ h₁ => ?_) fun _ _ e => e)
  obtain ⟨y, cs, u, news, rfl, hh, F, N, h2, turn, fin⟩ := h₁
  have hcps : y.cps = cs.toArray := by rw [h2.1]
  have hall : y.cps.all (· < 128) = true := by
    rw [Array.all_eq_true_iff_forall_mem]
    intro c hc
    rw [hcps, List.mem_toArray] at hc
    have := h2.2.2 c hc
    unfold Abc at this
    simp only [decide_eq_true_eq]
    omega
  refine wpAny_pyIter_ascii hall ?_
  refine LCg.block_U (S := fun _ => True) (Walks.strAscii hh s₁.heap.objs.size y u) (by rw [hcps, List.size_toArray, PySem.sizeLine_eq]; have := h2.2.1; omega) (fun i h st => by obtain ⟨o', e, _⟩ := st; exact ⟨o', e⟩) ?_ hcell hkind hx ⟨_, Heap.get?_push_size _ rfl, rfl, rfl⟩ (fun b hb => ?_)
    (F.keeps fun b o' e => Heap.get?_push_of_some _ e) (N.grown fun b o' e => Heap.get?_push_of_some _ e) (Nat.ne_of_lt F.ns.lt) (next_is_new F) (fun p hp => Nat.ne_of_lt (Heap.lt_size (N p hp).1)) trivial
    (rest_gen (Fin := fun ys nw => ∃ xs, StrsAre ys xs ∧ xs = cs.map (fun c => (⟨#[opp c]⟩ : SStr)) ∧ nw = news) (fun i z => ∃ c, cs[i]? = some c ∧ z = ⟨#[opp c]⟩) (fun i v I oI C oC D m₂ ys h tk E' hi hv hC hx' F' N' off ne => ?_) (fun ys xs hy hl hp => ?_)) ?_
  · intro i h' h'' o' nw st e1 e2 hk N' hS
    obtain ⟨o2, q, r⟩ := st
    rw [e1] at q
    cases q
    exact ⟨o', e2, r⟩
  · show b < (s₁.heap.push _).objs.size
    rw [Heap.size_push]
    rw [List.mem_singleton.mp hb]; exact Nat.lt_succ_self _
  · obtain ⟨c, t, hc, rfl⟩ := hv
    have hc' : cs[i]? = some c := by rw [hcps] at hc; simpa using hc
    refine wpAny_mono (turn c t I oI C oC D m₂ ys h tk E' (h2.2.2 c (List.mem_of_getElem? hc')) hC hx' F' N' off ne) (fun y s₂ hq => ?_) fun _ _ e => e
    obtain ⟨h', tk', nw, e, F2, N2, off2, hS, hn, t', hy'⟩ := hq
    exact ⟨h', tk', nw, e, F2, N2, off2, hS, hn, _, t', hy', c, hc', rfl⟩
  · refine ⟨xs, hy, ?_, rfl⟩
    refine List.ext_getElem? fun i => ?_
    have hlen : xs.length = cs.length := by rw [hl, hcps, List.size_toArray]
    cases e : xs[i]? with
    | none =>
      have : cs.length ≤ i := by rw [← hlen]; exact List.getElem?_eq_none_iff.mp e
      rw [List.getElem?_eq_none (by rw [List.length_map]; exact this)]
    | some z =>
      obtain ⟨c, hc, hz⟩ := hp i z e
      rw [List.getElem?_map, hc, hz]
      rfl
  · intro D C h tk m' ys news' F' N' o1 hn hC₀ hD₀ hCL hDL hCD offC fin'
    obtain ⟨xs, hy, hxs, rfl⟩ := fin'
    refine ⟨m', hn, fun h'' hs'' => fin D h'' tk ys xs hy hxs (F'.change hs'' hCL hC₀) (fun p hp => ?_) o1⟩
    refine ⟨hs''.extBut _ _ ?_ (N' p hp).1, (N' p hp).2⟩
    rcases List.mem_cons.mp hp with rfl | hp
    · exact Ne.symm hCD
    · exact offC p hp
end
end Mine
end
section
open PySem PySem.W PyProof.Rows
namespace Mine
variable {KK : PySem.Params → Frag} {qq : Program}

theorem opp_abc {c : Nat} (h : Abc c) : Abc (opp c) := by
  rcases abc_cases h with rfl | rfl | rfl | rfl <;> simp [opp, Abc]
theorem inv_opp {c : Nat} (h : Abc c) : inv2 c (opp c) = true := by
  rcases abc_cases h with rfl | rfl | rfl | rfl <;> decide
theorem join_opp {prog : Program} {w : World} {A : Around} {E : Value → Shared → Prop} {s : Shared} {D : Addr} {ys : List Value} {xs : List SStr} {cs : List Nat} {y : SStr} {t : Tok} {Q : Value → Shared → Prop} (hl : s.heap.IsList D ys.toArray) (hc : StrsAre ys xs) (e : xs = cs.map (fun c => (⟨#[opp c]⟩ : SStr))) (h2 : Two y cs)
    (h : ∀ z t' tk, Two z (cs.map opp) → Q (.str z t') { s with toks := tk }) : wpAny (model prog w) A (call (.builtin "str.join") [.str (S "") t, .ref D]) Q E s := by
  have hs : ∀ z ∈ xs, Sgn z := by
    intro z hz
    rw [e] at hz
    obtain ⟨c, hcm, rfl⟩ := List.mem_map.mp hz
    exact ⟨opp c, opp_abc (h2.2.2 c hcm), rfl⟩
  have hlen : xs.length ≤ 5 := by
    rw [e, List.length_map]
    have := h2.2.1
    omega
  refine join_sgns hl hc hlen hs fun wd t' tk _ hwd => h wd t' tk ⟨?_, by rw [List.length_map]; exact h2.2.1, ?_⟩
  · have e2 : xs = (cs.map opp).map (fun c => (⟨#[c]⟩ : SStr)) := by rw [e, List.map_map]; rfl
    rw [hwd, e2, join_cps]
  · intro c hc
    obtain ⟨d, hd, rfl⟩ := List.mem_map.mp hc
    exact opp_abc (h2.2.2 d hd)
structure Dead (x : SStr) : Prop where
  good : Good x
  nf : nfS x = S ""
theorem nf_dead : ∀ (cs : List Nat), cs.length ≤ 2 → (∀ c ∈ cs, Abc c) → nfL (cs ++ (cs.reverse.map opp)) = []
  | [], _, _ => rfl
  | [a], _, h => by
    have ha := inv_opp (h a (.head _))
    exact nfL_pair ha []
  | [a, b], _, h => by
    have ha := inv_opp (h a (.head _))
    have hb := inv_opp (h b (.tail _ (.head _)))
    have e := nfL_mid hb [opp a] [a]
    have e2 := nfL_pair ha []
    show nfL ([a] ++ b :: opp b :: [opp a]) = []
    rw [e]
    exact e2
  | _ :: _ :: _ :: _, hl, _ => by simp at hl
theorem add_dead {prog : Program} {w : World} {A : Around} {E : Value → Shared → Prop} {s : Shared} {x y : SStr} {cs : List Nat} {t u : Tok} {Q : Value → Shared → Prop} (hx : Two x cs) (hy : Two y (cs.reverse.map opp))
    (h : ∀ z t' tk, Dead z → Q (.str z t') { s with toks := tk }) : wpAny (model prog w) A (binaryOp .Add (.str x t) (.str y u)) Q E s := by
  have hl := hx.2.1
  have lx : x.length = cs.length := by rw [len_list', hx.1]
  have ly : y.length = cs.length := by rw [len_list', hy.1]; simp
  have hcps : (x ++ y).cps.toList = cs ++ cs.reverse.map opp := by rw [PySem.Str.cps_append, hx.1, hy.1]; simp
  refine PyProof.Rows.add_str (fun t' tk => h _ t' tk ⟨⟨?_, ?_⟩, ?_⟩) (by rw [sizeLine_eq]; omega)
  · rw [PySem.Str.length_append]; omega
  · intro c hc
    rw [hcps] at hc
    rcases List.mem_append.mp hc with hc | hc
    · exact hx.2.2 c hc
    · exact hy.2.2 c hc
  · show (⟨(nfL (x ++ y).cps.toList).toArray⟩ : SStr) = S ""
    rw [hcps, nf_dead cs hl hx.2.2]
    rfl
theorem eq_dead {prog : Program} {w : World} {A : Around} {E : Value → Shared → Prop} {s : Shared} {word x : SStr} {t u : Tok} {Q : Value → Shared → Prop} (hd : Dead word) (hx : IsEnd word x) (h : Q (.bool true) s) :
    wpAny (model prog w) A (compareOp .Eq (.str x t) (.str (S "") u)) Q E s := by
  refine PyProof.Rows.eq_str ?_
  have e : x = S "" := hx.trans hd.nf
  rw [e]
  simpa using h
theorem comp_end_opp {h₀ : Heap} {L I C D : Addr} {m : SStr → Option Value} {s₁ : Shared} {oI oC oD : Obj} {h' : Heap} {tk : Nat} {news : Led} {c : Nat} {t : Tok} (F : Fr h₀ L h' m) (N : News h₀ L h' ((I, oI) :: (C, oC) :: (D, oD) :: news)) (off : LCg.Off3 I C D news) :
    LCg.CompEnd h₀ L m s₁ I oI C oC D oD (fun _ => True) (fun y news' => ElO c news y news') (.str ⟨#[opp c]⟩ t) { s₁ with heap := h', toks := tk } :=
  LCg.CompEnd.intro F N news (fun _ hp => hp) off True.intro ⟨rfl, _, rfl⟩
end Mine
end
section
open PySem PySem.W PyProof.Rows
namespace Mine
theorem reset_toks {prog : Program} {w : World} {A : Around} {α : Type} {P : Sem α} {Q : α → Shared → Prop} {E : Value → Shared → Prop} {h : Heap} {g : Array GenState} {d : _} {tk : Nat} {o : OsState} (H : ∀ tk', wpAny (model prog w) A P Q E ⟨h, g, d, tk', o⟩) : wpAny (model prog w) A P Q E ⟨h, g, d, tk, o⟩ := H tk
theorem keepA {h₀ h : Heap} {L : Addr} {e0 e1 e2 e3 e4 e5 e6 e7 e8 e9 e10 : Addr × Obj} {r : Led} (N : News h₀ L h (e0 :: e1 :: e2 :: e3 :: e4 :: e5 :: e6 :: e7 :: e8 :: e9 :: e10 :: r)) : News h₀ L h [e3, e10] := by
  refine cb_drop N ?_
  intro p hp
  simp only [List.mem_cons, List.not_mem_nil, or_false] at hp ⊢
  rcases hp with rfl | rfl <;> simp
inductive InWalk : Prop
  | mk
inductive InStep : Prop
  | mk
inductive InTried : Prop
  | mk
inductive InLess : Prop
  | mk
inductive InGrid : Prop
  | mk
inductive InEnd : Prop
  | mk
inductive InLaw : Prop
  | mk
local macro_rules | `(tactic| k_room) => `(tactic| ktr_room)
local macro_rules | `(tactic| k_units) => `(tactic| ktr_units)
local macro_rules | `(tactic| k_all) => `(tactic| ((with_reducible rename InWalk => hGuard); assumption))
local macro_rules | `(tactic| size_fits) => `(tactic| assumption)
local macro_rules | `(tactic| walk_at "compareOp NotIn str ref") => `(tactic| (k_here; (with_reducible show wpAny _ _ (compareOp CmpOp.NotIn (Value.str _ _) (Value.ref _)) _ _ _); k_dflt (refine' notin_topT ?F ?X ?l ?k2 ?_; (case F => k_asm); (case X => k_asm); (case l => k_is); (case k2 => kde_strs); k_whole)))
local macro_rules | `(tactic| walk_at "setItem ref str") => `(tactic| (k_here; k_dflt (refine' kda_set (knd := PySem.strKind _ _) ?F ?N ?U ?d (strKind_is _ _ _ _) ?z ?_; (case F => k_asm); (case N => k_asm); (case U => k_updF); (case d => k_asm); (case z => assumption)); intro h' o' F' N' hd'; (try dsimp only at N')))
local macro_rules | `(tactic| k_ne) => `(tactic| first | assumption | exact Ne.symm (by assumption))
local macro_rules | `(tactic| ktn_lt) => `(tactic| first | with_reducible exact mem_head | (with_reducible refine' mem_tail ?_; ktn_lt))
local macro_rules | `(tactic| kcj_all) => `(tactic| (repeat (first | refine sub_cons (by ktn_lt) ?_ | refine sub_cons (by k_mem) ?_ | exact sub_nil | exact sub_refl | refine sub_tail ?_)))
local macro_rules | `(tactic| walk_at "execs cons") => `(tactic| ((with_reducible show wpAny _ _ _ _ _ (Shared.mk _ _ _ (_ + _) _)); refine reset_toks ?_; intro tkR))
local macro_rules | `(tactic| walk_at "compareOp Eq ref") => `(tactic| ((with_reducible rename InTried => hGuard); (k_here; (with_reducible show wpAny _ _ (compareOp CmpOp.Eq (Value.ref _) (Value.str _ _)) _ _ _); k_dflt (refine' eq_tup_str ?N ?m ?u ?_; (case N => k_asm); (case m => k_mem); (case u => ktr_units)))))
local macro_rules | `(tactic| walk_at "exec While") => `(tactic| ((with_reducible rename InTried => hGuard); (k_here; refine stop_here ?_)))
local macro_rules | `(tactic| walk_at "KswEnd") => `(tactic| ((with_reducible rename InTried => hGuard); refine stop_here ?_))
local macro_rules | `(tactic| walk_at "call builtin:list.pop") => `(tactic| ((with_reducible rename InTried => hGuard); (k_here; k_dflt (refine' pop_push ?F ?N ?U ?z ?_; (case F => k_asm); (case N => k_asm); (case U => k_upd); (case z => omega)); intro h' F' N')))
local macro_rules | `(tactic| walk_at "call builtin:len") => `(tactic| ((with_reducible rename InTried => hGuard); (k_here; k_dflt (refine' len_push ?N ?m ?z ?_; (case N => k_asm); (case m => k_mem); (case z => assumption)); intro t' tk')))
local macro_rules | `(tactic| walk_at "call ref") => `(tactic| ((with_reducible rename InTried => hGuard); (k_here; (with_reducible show wpAny _ _ (call (Value.ref 226) _) _ _ _); k_dflt (refine' LClaim.call ?F ?B ?X ?T ?k (step_at ?St ?O ?A ?h0 ?h1 ?e) ?N ?d ?u ?_; (case F => k_asm); (case B => k_asm); (case X => k_asm); (case T => k_asm); (case k => first | exact rfl | assumption); (case St => assumption); (case O => assumption); (case N => k_asm); (case e => exact rfl); (case A => assumption); (case h0 => assumption); (case h1 => assumption); (case d => ktr_room); (case u => ktr_units)); intro r' n' h' tk' hR F' N'; obtain ⟨ks', e1, e2⟩ := hR; subst e1; subst e2; (dsimp only [Can, Fx.stat, Fx.host] at N'))))
local macro_rules | `(tactic| walk_at "call ref") => `(tactic| ((with_reducible rename InTried => hGuard); (k_here; (with_reducible show wpAny _ _ (call (Value.ref 411) _) _ _ _); refine stop_here ?_)))
local macro_rules | `(tactic| walk_at "compareOp Eq ref") => `(tactic| ((with_reducible rename InLess => hGuard); (k_here; (with_reducible show wpAny _ _ (compareOp CmpOp.Eq (Value.ref _) (Value.str _ _)) _ _ _); k_dflt (refine' eq_tup_str ?N ?m ?u ?_; (case N => k_asm); (case m => k_mem); (case u => ktr_units)))))
local macro_rules | `(tactic| walk_at "call ref") => `(tactic| ((with_reducible rename InLess => hGuard); (k_here; (with_reducible show wpAny _ _ (call (Value.ref 404) _) _ _ _); refine stop_here ?_)))
local macro_rules | `(tactic| walk_at "exec For Tuple Subscript cons nil") => `(tactic| ((with_reducible rename InLess => hGuard); (k_here; (rename Fr _ _ _ _ => lF'); (with_unfolding_all refine' For_turns lF' ?_; k_whole))))
local macro_rules | `(tactic| walk_at "pyIter ref") => `(tactic| ((with_reducible rename InLess => hGuard); (k_here; (with_reducible show wpAny _ _ (pyIter (Value.ref _)) (fun it s₂ => TurnsAt _ _ _ _ _ _ _ _ _ it s₂) _ _); (with_unfolding_all refine' iter_listTurns (vs := []) ?hh ?F ?N ?m ?c ?d ?_); (case hh => exact rfl); (case F => k_asm); (case N => k_asm); (case m => k_mem); (case c => exact rfl); (case d => exact rfl); intro I' l1; refine ItemsRest.zero ?_; intro h' tk' F' N')))
local macro_rules | `(tactic| walk_at "subscriptTail") => `(tactic| ((with_reducible rename InLess => hGuard); (k_here; (with_reducible show wpAny _ _ (subscriptTail _ _ (Value.ref _) (Value.str _ _)) _ _ _); k_dflt (refine kda_item (knd := PySem.strKind _ _) (by k_asm) (by k_mem) (by k_asm) (strKind_is _ _ _ _) (by rfl) ?_))))
local macro_rules | `(tactic| walk_at "exec For Name Name cons nil") => `(tactic| ((with_reducible rename InGrid => hGuard); (k_here; (rename Fr _ _ _ _ => lF'); (with_unfolding_all refine' For_invVF lF' ?k1 ?k2 ?_; (case k1 => exact rfl); (case k2 => exact rfl); k_whole))))
local macro_rules | `(tactic| walk_at "pyIter str") => `(tactic| ((with_reducible rename InGrid => hGuard); (k_here; refine stop_here ?_)))
local macro_rules | `(tactic| walk_at "InvEndN") => `(tactic| ((with_reducible rename InGrid => hGuard); refine stop_here ?_))
local macro_rules | `(tactic| walk_at "compareOp In str str") => `(tactic| ((with_reducible rename InGrid => hGuard); (k_here; k_dflt (refine' in_code ?hx ?_; (case hx => exact rfl)))))
local macro_rules | `(tactic| walk_at "exec For Name Call cons nil") => `(tactic| ((with_reducible rename InEnd => hGuard); (k_here; (rename Fr _ _ _ _ => lF'); (with_unfolding_all refine' For_invVF lF' ?k1 ?k2 ?_; (case k1 => exact rfl); (case k2 => exact rfl); k_whole))))
local macro_rules | `(tactic| walk_at "pyIter ref") => `(tactic| ((with_reducible rename InEnd => hGuard); (k_here; refine stop_here ?_)))
local macro_rules | `(tactic| walk_at "InvEndN") => `(tactic| ((with_reducible rename InEnd => hGuard); refine stop_here ?_))
local macro_rules | `(tactic| walk_at "call ref") => `(tactic| ((with_reducible rename InEnd => hGuard); (k_here; (first | (with_reducible show wpAny _ _ (call (Value.ref 453) _) _ _ _) | (with_reducible show wpAny _ _ (call (Value.ref 460) _) _ _ _)); refine stop_here ?_)))
local macro_rules | `(tactic| walk_at "call builtin:len") => `(tactic| ((with_reducible rename InLaw => hGuard); (k_here; k_dflt (refine' len_made ?N ?m ?i ?z ?_; (case N => k_asm); (case m => ktn_lt); (case i => assumption); (case z => (simp only [List.length_take]; omega))); intro t' tk')))
local macro_rules | `(tactic| walk_at "subscriptTail Name Slice ref ref") => `(tactic| ((with_reducible rename InLaw => hGuard); (k_here; (with_reducible show wpAny _ _ (subscriptTail _ (PySem.Expr.Slice (some _) _ none _) (Value.ref _) (Value.ref _)) _ _ _); k_dflt (refine' kmk_slice_ints ?F ?N ?l ?p ?q ?i ?m ?c ?_ ?s ?t ?z; (case F => k_asm); (case N => k_asm); (case l => exact News.isList (by k_asm) (by ktn_lt)); (case p => kmk_part); (case q => kmk_part); (case i => exact ints5); (case m => exact kmk_from ints5 (Int.natCast_nonneg _)); (case c => exact List.length_drop ..); (case s => with_unfolding_all rfl); (case t => kmk_pure); (case z => exact Nat.le_of_ble_eq_true rfl)); intro D' ws' h' F' N' l1 hI' hC' hL'; (try k_lt l1); clear hC' hL')))
local macro_rules | `(tactic| walk_at "binaryOp Add ref ref") => `(tactic| ((with_reducible rename InLaw => hGuard); (k_here; (with_reducible show wpAny _ _ (binaryOp _ (Value.ref _) (Value.ref _)) _ _ _); k_dflt (refine' kmk_add_ints ?F ?N ?a ?b ?i ?j ?_ ?z; (case F => k_asm); (case N => k_asm); (case a => exact News.isList (by k_asm) (by ktn_lt)); (case b => exact News.isList (by k_asm) (by ktn_lt)); (case i => with_reducible assumption); (case j => with_reducible assumption); (case z => exact cells_room)); intro D' ws' h' F' N' l1 hI'; (try k_lt l1); obtain ⟨c0, c1, c2, c3, c4, t0, t1, t2, t3, t4, hws, hc0, hc1, hc2, hc3, hc4⟩ := cells5 hI' (Int.toNat_natCast _); subst hws; clear hI')))
local macro_rules | `(tactic| walk_at "subscriptTail Name BinOp ref int") => `(tactic| ((with_reducible rename InLaw => hGuard); (k_here; (with_reducible show wpAny _ _ (subscriptTail _ _ (Value.ref _) (Value.int _ _)) _ _ _); k_dflt (refine' item_made ?N ?m ?z ?y ?x ?_ ?s; (case N => k_asm); (case m => ktn_lt); (case z => decide); (case y => decide); (case x => rfl); (case s => with_unfolding_all rfl)))))
local macro_rules | `(tactic| walk_at "subscriptTail Name Name ref int") => `(tactic| ((with_reducible rename InLaw => hGuard); (k_here; (with_reducible show wpAny _ _ (subscriptTail _ _ (Value.ref _) (Value.int _ _)) _ _ _); k_dflt (refine' item_made ?N ?m ?z ?y ?x ?_ ?s; (case N => k_asm); (case m => ktn_lt); (case z => decide); (case y => decide); (case x => rfl); (case s => with_unfolding_all rfl)))))
local macro_rules | `(tactic| walk_at "subscriptTail Name Constant ref int") => `(tactic| ((with_reducible rename InLaw => hGuard); (k_here; (with_reducible show wpAny _ _ (subscriptTail _ _ (Value.ref _) (Value.int _ _)) _ _ _); k_dflt (refine' item_made ?N ?m ?z ?y ?x ?_ ?s; (case N => k_asm); (case m => ktn_lt); (case z => decide); (case y => decide); (case x => rfl); (case s => with_unfolding_all rfl)))))
local macro_rules | `(tactic| walk_at "CompSrc") => `(tactic| ((with_reducible rename InLaw => hGuard); ((with_reducible show LCg.CompSrc _ _ _ _ _ _ _ (PySem.Expr.Subscript _ _ _) _ _ _ _ _ _); k_dflt (refine' comp_range6 ?hh ?F ?N ?hr (fun k' t' I' oI' C' oC' D' m' ys' h' tk' g' E' hlo' hhi' hC' hx' F' N' off' ne' => ?_) (fun g' ys' xs' hy' hl' hz' => ?_); (case hh => rfl); (case F => k_asm); (case N => k_asm); (case hr => with_reducible assumption)); (all_goals (try (have off0' := off'; simp only [LCg.Off3, and_true] at off'))))))
local macro_rules | `(tactic| walk_at "binaryOp Pow int int") => `(tactic| ((with_reducible rename InLaw => hGuard); (k_here; (with_reducible refine pow_int_small (by with_reducible assumption) (k_le5 (by with_reducible assumption)) (by decide) ?_))))
local macro_rules | `(tactic| walk_at "binaryOp FloorDiv int int") => `(tactic| ((with_reducible rename InLaw => hGuard); (k_here; (refine' floordiv_int ?e ?_ (Or.inl (PyProof.noPylong_of_log2 ?p))); (case e => exact pow4_ne); (case p => (refine' pow4_log ?ph; (case ph => with_reducible assumption))))))
local macro_rules | `(tactic| walk_at "subscriptTail") => `(tactic| ((with_reducible rename InLaw => hGuard); (k_here; (with_reducible show wpAny _ _ (subscriptTail _ _ (Value.str _ _) (Value.int (Int.fmod _ _) _)) _ _ _); k_dflt (refine' sign_at ?x ?_ ?s ?t; (case x => with_reducible rfl); (case s => with_unfolding_all rfl); (case t => (intro _; with_unfolding_all rfl))); intro z9 tok9 tk9 hz9)))
local macro_rules | `(tactic| walk_at "CompEnd") => `(tactic| ((with_reducible rename InLaw => hGuard); ((with_reducible show LCg.CompEnd _ _ _ _ _ _ _ _ _ _ _ _ (Value.str _ _) _); (refine' comp_end_str ?F ?N ?off ?hz; (case F => k_asm); (case N => k_asm); (case off => with_reducible assumption); (case hz => with_reducible assumption)))))
local macro_rules | `(tactic| walk_at "call builtin:str.join") => `(tactic| ((with_reducible rename InLaw => hGuard); (k_here; k_dflt (refine' join_sgns ?l ?c ?n ?s ?_; (case l => exact News.isList (by k_asm) (by ktn_lt)); (case c => with_reducible assumption); (case n => with_reducible assumption); (case s => with_reducible assumption)); intro wd tw9 tk9 hgood hwd)))
local macro_rules | `(tactic| walk_at "call ref") => `(tactic| ((with_reducible rename InLaw => hGuard); (k_here; (first | (with_reducible show wpAny _ _ (call (Value.ref 467) _) _ _ _) | (with_reducible show wpAny _ _ (call (Value.ref 460) _) _ _ _)); refine stop_here ?_)))
local macro_rules | `(tactic| walk_at "compareOp Eq ref ref") => `(tactic| ((with_reducible rename InLaw => hGuard); (k_here; (with_reducible show wpAny _ _ (compareOp CmpOp.Eq (Value.ref _) (Value.ref _)) _ _ _); k_dflt (refine' eq_grids ?N ?h1 ?h2 ?g1 ?g2 ?hu ?hv ?hx ?hy ?hun ?_; (case N => k_asm); (case h1 => ktn_lt); (case h2 => ktn_lt); (case g1 => with_reducible assumption); (case g2 => with_reducible assumption); (case hu => with_reducible assumption); (case hv => with_reducible assumption); (case hx => with_reducible assumption); (case hy => with_reducible assumption); (case hun => ke_room)))))
local macro_rules | `(tactic| walk_at "compareOp Eq str str") => `(tactic| ((with_reducible rename InLaw => hGuard); (k_here; with_reducible refine eq_strs ?_)))
local macro_rules | `(tactic| walk_at "compareOp NotEq bool bool") => `(tactic| ((with_reducible rename InLaw => hGuard); (k_here; with_reducible refine ne_bool_same ?_)))
local macro_rules | `(tactic| walk_at "storeName str") => `(tactic| ((with_reducible rename InLaw => hGuard); (k_here; k_dflt (refine' storeX_C ?F ?N ?c ?U ?d ?_ ?a ?b; (case a => rfl); (case b => rfl); (case F => k_asm); (case N => k_asm); (case c => rfl); (case U => k_updF); (case d => k_asm); k_whole); intro h' o' F' N' d'; (try dsimp only at N'); (try k_sweep))))
local macro_rules | `(tactic| walk_at "eval ListComp") => `(tactic| ((with_reducible rename InLaw => hGuard); (k_here; (with_reducible show wpAny _ _ (eval (PySem.Expr.ListComp (PySem.Expr.Name _ _) _ _ _) _) _ _ _); k_dflt (refine' ListComp_none ?F ?hclos ?hcell ?hkind ?hnames ?hx ?hs ?_; (case F => k_asm); (case hclos => with_unfolding_all rfl); (case hcell => decide); (case hkind => rfl); (case hnames => decide); (case hx => rfl); (case hs => (intro _; rfl))))))
local macro_rules | `(tactic| walk_at "PairSrc") => `(tactic| ((with_reducible rename InLaw => hGuard); (k_dflt (refine' PairSrc.intro ?hh ?F ?N ?hm ?hc ?hi ?hz ?hsz (fun z' t' I' oI' C' oC' D' m' h' tk' E' hz' hC' hx' F' N' off' ne' => ?_) (fun D' h' tk' F' N' o1' => ?_); (case hh => rfl); (case F => k_asm); (case N => k_asm); (case hm => ktn_lt); (case hc => exact ⟨rfl, rfl⟩); (case hi => exact strs4); (case hz => exact pairs4); (case hsz => exact Nat.le_of_ble_eq_true rfl)); (all_goals (try simp only [LCg.Off3, and_true] at off')); (all_goals (try simp only [LCg.Off1, and_true] at o1')))))
local macro_rules | `(tactic| walk_at "NoneHere") => `(tactic| ((with_reducible rename InLaw => hGuard); (refine' NoneHere.intro ?F ?N; (case F => k_asm); (case N => k_asm))))
local macro_rules | `(tactic| walk_at "compareOp In str str") => `(tactic| ((with_reducible rename InLaw => hGuard); (k_here; (with_reducible refine' in_nf ?hz ?hx ?_); (case hz => with_reducible assumption); (case hx => with_reducible assumption))))
local macro_rules | `(tactic| walk_at "compareOp NotEq str str") => `(tactic| ((with_reducible rename InLaw => hGuard); (k_here; with_reducible refine ne_same ?_)))
local macro_rules | `(tactic| walk_at "exec For Name Name cons nil") => `(tactic| ((with_reducible rename InLaw => hGuard); (k_here; (rename Fr _ _ _ _ => lF'); (with_unfolding_all refine' For_turns lF' ?_; k_whole))))
local macro_rules | `(tactic| walk_at "pyIter ref") => `(tactic| ((with_reducible rename InLaw => hGuard); (k_here; (with_reducible show wpAny _ _ (pyIter (Value.ref _)) (fun it s₂ => TurnsAt _ _ _ _ _ _ _ _ _ it s₂) _ _); ktu_seq)))
local macro_rules | `(tactic| walk_at "compareOp In none ref") => `(tactic| ((with_reducible rename InLaw => hGuard); (k_here; (with_reducible show wpAny _ _ (compareOp _ Value.none (Value.ref _)) _ _ _); k_dflt (refine' none_in3 ?N ?m ?_; (case N => k_asm); (case m => ktn_lt)))))
local macro_rules | `(tactic| walk_at "subscriptTail Subscript Name Constant Slice str ref") => `(tactic| ((with_reducible rename InLaw => hGuard); (k_here; (with_reducible show wpAny _ _ (subscriptTail _ (PySem.Expr.Slice none (some _) none _) (Value.str _ _) (Value.ref _)) _ _ _); (with_reducible rename Fr _ _ _ _ => F'); (with_reducible rename News _ _ _ _ => N'); (refine' slice_two (s := ⟨_, _, _, _, _⟩) F' N' ?hg ?_ ?hs ?ht; (case hg => with_reducible assumption); (case hs => with_unfolding_all rfl); (case ht => (intro _; with_unfolding_all rfl))); intro one9 cs9 h9 t9 k9 h29 F9 N9)))
local macro_rules | `(tactic| walk_at "subscriptTail Name Slice str ref") => `(tactic| ((with_reducible rename InLaw => hGuard); (k_here; (with_reducible show wpAny _ _ (subscriptTail _ (PySem.Expr.Slice none none (some _) _) (Value.str _ _) (Value.ref _)) _ _ _); (with_reducible rename Fr _ _ _ _ => F'); (with_reducible rename News _ _ _ _ => N'); (refine' slice_rev (s := ⟨_, _, _, _, _⟩) F' N' ?hg ?_ ?hs ?ht; (case hg => with_reducible assumption); (case hs => with_unfolding_all rfl); (case ht => (intro _; with_unfolding_all rfl))); intro rv9 h9 t9 k9 h29 F9 N9)))
local macro_rules | `(tactic| walk_at "eval ListComp") => `(tactic| ((with_reducible rename InLaw => hGuard); (k_here; (with_reducible show wpAny _ _ (eval (PySem.Expr.ListComp (PySem.Expr.Subscript _ (PySem.Expr.Call _ _ _ _) _) _ _ _) _) _ _ _); k_dflt (refine' ListComp_signs ?F ?hclos ?hcell ?hkind ?hnames ?hx ?hs ?_; (case F => k_asm); (case hclos => with_unfolding_all rfl); (case hcell => decide); (case hkind => rfl); (case hnames => decide); (case hx => rfl); (case hs => (intro _; rfl))))))
local macro_rules | `(tactic| walk_at "SignSrc") => `(tactic| ((with_reducible rename InLaw => hGuard); (k_dflt (refine' SignSrc.intro ?hh ?F ?N ?h2 (fun c' t' I' oI' C' oC' D' m' ys' h' tk' E' hc' hC' hx' F' N' off' ne' => ?_) (fun D' h' tk' ys' xs' hy' he' F' N' o1' => ?_); (case hh => rfl); (case F => k_asm); (case N => k_asm); (case h2 => with_reducible assumption)); (all_goals (try (have off0' := off'; simp only [LCg.Off3, and_true] at off'))); (all_goals (try simp only [LCg.Off1, and_true] at o1')))))
local macro_rules | `(tactic| walk_at "call builtin:str.index") => `(tactic| ((with_reducible rename InLaw => hGuard); (k_here; k_dflt (refine' idx_sign ?hA ?hc ?_; (case hA => rfl); (case hc => with_reducible assumption)); intro k9 tk9 hk0 hk1 hke)))
local macro_rules | `(tactic| walk_at "subscriptTail") => `(tactic| ((with_reducible rename InLaw => hGuard); (k_here; (with_reducible show wpAny _ _ (subscriptTail _ (PySem.Expr.Call _ _ _ _) (Value.str _ _) (Value.int _ _)) _ _ _); k_dflt (refine' item_opp ?x ?a ?b ?e ?_ ?s ?t; (case x => with_reducible rfl); (case e => with_reducible assumption); (case a => with_reducible assumption); (case b => with_reducible assumption); (case s => with_unfolding_all rfl); (case t => (intro _; with_unfolding_all rfl))); intro tok9 tk9)))
local macro_rules | `(tactic| walk_at "CompEnd") => `(tactic| ((with_reducible rename InLaw => hGuard); ((with_reducible show LCg.CompEnd _ _ _ _ _ _ _ _ _ _ _ (fun _ _ => ElO _ _ _ _) _ _); (refine' comp_end_opp ?F ?N ?off; (case F => k_asm); (case N => k_asm); (case off => with_reducible assumption)))))
local macro_rules | `(tactic| walk_at "call builtin:str.join") => `(tactic| ((with_reducible rename InLaw => hGuard); (k_here; k_dflt (refine' join_opp ?l ?c ?e ?h2 ?_; (case l => exact News.isList (by k_asm) (by ktn_lt)); (case c => with_reducible assumption); (case e => with_reducible assumption); (case h2 => with_reducible assumption)); intro z9 tz9 tk9 hz29)))
local macro_rules | `(tactic| walk_at "binaryOp Add str str") => `(tactic| ((with_reducible rename InLaw => hGuard); (k_here; (with_reducible refine' add_dead ?a ?b ?_); (case a => with_reducible assumption); (case b => with_reducible assumption); intro z9 tz9 tk9 hdead)))
local macro_rules | `(tactic| walk_at "compareOp Eq str str") => `(tactic| ((with_reducible rename InLaw => hGuard); (k_here; (with_reducible refine' eq_dead ?a ?b ?_); (case b => with_reducible assumption); (case a => with_reducible assumption))))
theorem main.tw7439787175107056256 : True := trivial
theorem main.tw7221758910455160077 : True := trivial
theorem main.tw17146568849442343683 : True := trivial
theorem main.tw3562595001068472590 : True := trivial
theorem main.tw12205347405646519318 : True := trivial
theorem main.tw9406782406253462049 : True := trivial
theorem main.tw6511744376749373798 : True := trivial
theorem main.tw2406621943657119228 : True := trivial
theorem main.tw5372645768047454471 : True := trivial
theorem main.tw16102231251864390963 : True := trivial
theorem main.tw9268297945177815525 : True := trivial
theorem main.tw14027531716089632829 : True := trivial
theorem main.tw2895952525429962455 : True := trivial
theorem main.tw10896356407431480244 : True := trivial
theorem main.tw11785714552879321826 : True := trivial
theorem main.tw223528310411579522 : True := trivial
theorem main.tw5781596087445459943 : True := trivial
theorem main.tw15303317825217679618 : True := trivial
theorem main.tw5585478044538960755 : True := trivial
theorem main.tw15955573374722617477 : True := trivial
theorem main.tw10334261112615635914 : True := trivial
theorem main.tw5518243967957118194 : True := trivial
theorem main.tw15806524323241146399 : True := trivial
theorem main.tw11156056980113079860 : True := trivial
theorem main.tw16778611742570070204 : True := trivial
theorem main.tw2821470743931037460 : True := trivial
theorem main.tw11101190512080308003 : True := trivial
theorem main.tw4637267157515435788 : True := trivial
theorem main.tw1676090057186544226 : True := trivial
theorem main.tw1632041292262086317 : True := trivial
theorem main.tw13219505800766818778 : True := trivial
theorem main.tw9265829497004654079 : True := trivial
theorem main.tw451873465583785326 : True := trivial
theorem main.tw14539993770535171780 : True := trivial
theorem main.tw16046730324260685337 : True := trivial
theorem main.tw17297283025540448806 : True := trivial
theorem main.tw5084117380071580128 : True := trivial
theorem main.tw2019394398466159022 : True := trivial
theorem main.tw3394367416137920725 : True := trivial
theorem main.tw6655696309031964122 : True := trivial
theorem main.tw1504049600530537962 : True := trivial
theorem main.tw5571399437266216444 : True := trivial
theorem main.tw4365514962571936147 : True := trivial
theorem main.tw4261964983698606537 : True := trivial
theorem main.tw17561526911342447988 : True := trivial
theorem main.tw14457758005677747962 : True := trivial
theorem main.tw16452447596832230105 : True := trivial
theorem main.tw2852251193174398662 : True := trivial
theorem main.tw6361450105264607166 : True := trivial
theorem main.tw9730157408454304684 : True := trivial
theorem main.tw9512817274939609580 : True := trivial
theorem main.tw14218914174604095658 : True := trivial
theorem main.tw10924716458440934090 : True := trivial
theorem main.tw2287757881348798766 : True := trivial
theorem main.tw9302470337196694018 : True := trivial
theorem main.tw2724176850512262202 : True := trivial
theorem main.tw7698036289167662538 : True := trivial
theorem main.tw7237411587787531456 : True := trivial
theorem main.tw4452170602077327944 : True := trivial
theorem main.tw5240779543111244032 : True := trivial
theorem main.tw12885385263037960081 : True := trivial
theorem main.tw10876375607700338302 : True := trivial
theorem main.tw11221353774195762014 : True := trivial
theorem main.tw9376575566392132001 : True := trivial
theorem main.tw8627561154394265716 : True := trivial
theorem main.tw13876859957761632879 : True := trivial
theorem main.tw15109750227778091905 : True := trivial
theorem main.tw9925469786538053656 : True := trivial
theorem main.tw18332899500509843999 : True := trivial
theorem main.tw10825838108423173272 : True := trivial
theorem main.tw16519101796099990279 : True := trivial
theorem main.tw9994787619460420439 : True := trivial
theorem main.tw9121559901702372667 : True := trivial
theorem main.tw10821422270917381399 : True := trivial
theorem main.tw6161133996638707016 : True := trivial
theorem main.tw4775608329324902142 : True := trivial
theorem main.tw1429040668314091153 : True := trivial
theorem main.tw12732289081945773324 : True := trivial
theorem main.tw16826212616301561204 : True := trivial
theorem main.tw17974016328880235120 : True := trivial
theorem main.tw1270039299266317192 : True := trivial
theorem main.tw13348322127785295214 : True := trivial
theorem main.tw4038153913678941442 : True := trivial
theorem main.tw17118054049896295152 : True := trivial
theorem main.tw17336282652733537790 : True := trivial
theorem main.tw17272174723667511238 : True := trivial
theorem main.tw4500915450034043215 : True := trivial
theorem main.tw16629339528299215175 : True := trivial
theorem main.tw1118068078248606362 : True := trivial
theorem main.tw3027586509356016917 : True := trivial
theorem main.tw14064073609400967072 : True := trivial
theorem main.tw17737603089517620647 : True := trivial
theorem main.tw10204856939554784155 : True := trivial
theorem main.tw11857135199678951331 : True := trivial
theorem main.tw1453356044741674121 : True := trivial
theorem main.tw16923884221124529275 : True := trivial
theorem main.tw6785657489111691699 : True := trivial
theorem main.tw979501456738626862 : True := trivial
theorem main.tw15467891735981029475 : True := trivial
theorem main.tw18302796317244248524 : True := trivial
theorem main.tw10455743928339290457 : True := trivial
theorem main.tw11420884497731329202 : True := trivial
theorem main.tw2496676261509829067 : True := trivial
theorem main.tw4324958949535026087 : True := trivial
theorem main.tw5613160597433933154 : True := trivial
theorem main.tw8440099810896429113 : True := trivial
theorem main.tw16641786646906312760 : True := trivial
theorem main.tw3583811862363856187 : True := trivial
theorem main.tw4749052000479324790 : True := trivial
theorem main.tw9369988214560726041 : True := trivial
theorem main.tw16688330820299344027 : True := trivial
theorem main.tw12922898485456448571 : True := trivial
theorem main.tw104360540948158410 : True := trivial
theorem main.tw1615956725737779560 : True := trivial
theorem main.tw17298425922696826006 : True := trivial
theorem main.tw1677766988990989824 : True := trivial
theorem main.tw7904437144335635152 : True := trivial
theorem main.tw8079908401900000222 : True := trivial
theorem main.tw9897820754763898449 : True := trivial
theorem main.tw12590340796369385619 : True := trivial
theorem main.tw17958375852430007124 : True := trivial
theorem main.tw8663697691656813868 : True := trivial
theorem main.tw15554039934745177238 : True := trivial
theorem main.tw10864377008497418100 : True := trivial
theorem main.tw7298748307773712898 : True := trivial
theorem main.tw12455012482086183272 : True := trivial
theorem main.tw11403851563620829512 : True := trivial
theorem main.tw12361340156312767134 : True := trivial
theorem main.tw10234815189450012239 : True := trivial
theorem main.tw15734660467963936456 : True := trivial
theorem main.tw18134284020713443437 : True := trivial
theorem main.tw4605139254293405059 : True := trivial
theorem main.tw13724616953566380437 : True := trivial
theorem main.tw17091655785135471103 : True := trivial
theorem main.tw8478376212529829071 : True := trivial
theorem main.tw17353955331779342651 : True := trivial
theorem main.tw6541472054586571296 : True := trivial
theorem main.tw5102693214775723256 : True := trivial
theorem main.tw16451033083921036709 : True := trivial
theorem main.tw9508770018378322450 : True := trivial
theorem main.tw16572128252103988241 : True := trivial
theorem main.tw9840939614602229412 : True := trivial
theorem main.tw3829396358689915599 : True := trivial
theorem main.tw18190005008629794160 : True := trivial
theorem main.tw9155575984036265788 : True := trivial
theorem main.tw7590696779544312186 : True := trivial
theorem main.tw15270170921892066516 : True := trivial
theorem main.tw17057053908230417247 : True := trivial
theorem main.tw15595112118272840620 : True := trivial
theorem main.tw65644731488775911 : True := trivial
theorem main.tw5995161000843957690 : True := trivial
theorem main.tw10642606787283503386 : True := trivial
theorem main.tw4126091431370883743 : True := trivial
theorem main.tw9498315638749924794 : True := trivial
theorem main.tw7974275031393228247 : True := trivial
theorem main.tw12646911602827044314 : True := trivial
theorem main.tw1277820614484962519 : True := trivial
theorem main.tw16320729459185622934 : True := trivial
theorem main.tw7308723440029596264 : True := trivial
theorem main.tw14080665800827857628 : True := trivial
theorem main.tw3706830351922483016 : True := trivial
theorem main.tw6696893160125735727 : True := trivial
theorem main.tw4026956272090484662 : True := trivial
theorem main.tw17695171507069755227 : True := trivial
theorem main.tw16136984950599521427 : True := trivial
theorem main.tw1587290215689348708 : True := trivial
theorem main.tw8228058824784995430 : True := trivial
theorem main.tw1439166485080882 : True := trivial
theorem main.tw13547569757486424058 : True := trivial
theorem main.tw11529684132196025223 : True := trivial
theorem main.tw4217978518040436213 : True := trivial
theorem main.tw1496695287857109588 : True := trivial
theorem main.tw5418533224930618480 : True := trivial
theorem main.tw16008457594558532635 : True := trivial
theorem main.tw15737690656516749961 : True := trivial
theorem main.tw15017983477296125989 : True := trivial
theorem main.tw1409966394225722968 : True := trivial
theorem main.tw2729793432009153956 : True := trivial
theorem main.tw7186131708394509389 : True := trivial
theorem main.tw17025133083680727874 : True := trivial
theorem main.tw341453280667917650 : True := trivial
theorem main.tw7268301785047649679 : True := trivial
theorem main.tw6741292078354696603 : True := trivial
theorem main.tw31828345220925962 : True := trivial
theorem main.tw17292155258170135553 : True := trivial
theorem main.tw33456957511925785 : True := trivial
theorem main.tw3627144658338631552 : True := trivial
theorem main.tw15803610866087392283 : True := trivial
theorem main.tw1156462466702112376 : True := trivial
theorem main.tw4126360451269472574 : True := trivial
theorem main.tw961187720498965250 : True := trivial
theorem main.tw11135027115929721415 : True := trivial
theorem main.tw4458048076830672230 : True := trivial
theorem main.tw4544244032028310869 : True := trivial
theorem main.tw10669944970481658594 : True := trivial
theorem main.tw13355152605343272895 : True := trivial
theorem main.tw4297412468100583042 : True := trivial
theorem main.tw12702744160499308131 : True := trivial
theorem main.tw8557395850702784662 : True := trivial
theorem main.tw1306636233014830658 : True := trivial
theorem main.tw3466206800631347469 : True := trivial
theorem main.tw5203219222101121401 : True := trivial
theorem main.tw5139629822343419033 : True := trivial
theorem main.tw18083267289459778378 : True := trivial
theorem main.tw2195194259037543316 : True := trivial
theorem main.tw7699798408344515789 : True := trivial
theorem main.tw3045742163950154196 : True := trivial
theorem main.tw5605486342743554106 : True := trivial
theorem main.tw11554813239044494598 : True := trivial
theorem main.tw221909299271738847 : True := trivial
theorem main.tw5160751907100791332 : True := trivial
theorem main.tw16035907590883218939 : True := trivial
theorem main.tw2279707942289718827 : True := trivial
theorem main.tw15624239662980076321 : True := trivial
theorem main.tw11987853993630220354 : True := trivial
theorem main.tw11461230924637031220 : True := trivial
theorem main.tw2583023086579268501 : True := trivial
theorem main.tw5450094653865882931 : True := trivial
theorem main.tw9563168847844234846 : True := trivial
theorem main.tw10877679251791092727 : True := trivial
theorem main.tw10114013102757674387 : True := trivial
theorem main.tw962032349192862916 : True := trivial
theorem main.tw17450470499104002142 : True := trivial
theorem main.tw13653307144232772194 : True := trivial
theorem main.tw12885673836220544336 : True := trivial
theorem main.tw917386388269078853 : True := trivial
theorem main.tw15131278010643852716 : True := trivial
theorem main.tw17708487481403421675 : True := trivial
theorem main.tw12872379398031375081 : True := trivial
theorem main.tw5243159528196176124 : True := trivial
theorem main.tw12839114828313443825 : True := trivial
theorem main.tw9976160756891316704 : True := trivial
theorem main.tw3613476055612923068 : True := trivial
theorem main.tw12518504611687188807 : True := trivial
theorem main.tw18315214858253571532 : True := trivial
theorem main.tw7751025194823839400 : True := trivial
theorem main.tw6044114016751833949 : True := trivial
theorem main.tw8466321980469482115 : True := trivial
theorem main.tw2759098988195820126 : True := trivial
theorem main.tw2225956059507018244 : True := trivial
theorem main.tw9483120023164983764 : True := trivial
theorem main.tw11501822485730972192 : True := trivial
theorem main.tw12431731261707249289 : True := trivial
theorem main.tw13503263706703578961 : True := trivial
theorem main.tw16965079339398995527 : True := trivial
theorem main.tw6545385358150927430 : True := trivial
theorem main.tw4650958065196391918 : True := trivial
theorem main.tw16832360635688203351 : True := trivial
theorem main.tw13838900630717943254 : True := trivial
theorem main.tw14635473669698735251 : True := trivial
theorem main.tw4651154628705390771 : True := trivial
theorem main.tw9381277316556691805 : True := trivial
theorem main.tw10363585996791799541 : True := trivial
theorem main.tw7411558596216406370 : True := trivial
theorem main.tw9682133043923132273 : True := trivial
theorem main.tw7293298908176781663 : True := trivial
theorem main.tw11646826074482590764 : True := trivial
theorem main.tw11181722664286889309 : True := trivial
theorem main.tw12343854547171428336 : True := trivial
theorem main.tw4485590104116560804 : True := trivial
theorem main.tw6389877041954997217 : True := trivial
theorem main.tw17510229520200029679 : True := trivial
theorem main.tw17679725944135375923 : True := trivial
theorem main.tw18284262389922463811 : True := trivial
theorem main.tw3532412968194664532 : True := trivial
theorem main.tw2238316416991798583 : True := trivial
theorem main.tw4812270449578504274 : True := trivial
theorem main.tw8467378866343419333 : True := trivial
theorem main.tw15589450922132767682 : True := trivial
theorem main.tw17402982504261768225 : True := trivial
theorem main.tw2544328076492683441 : True := trivial
theorem main.tw6053611964639427726 : True := trivial
theorem main.tw7153082081811710619 : True := trivial
theorem main.tw8729708805864041840 : True := trivial
theorem main.tw12273490649430754879 : True := trivial
theorem main.tw9331080965256306000 : True := trivial
theorem main.tw452746233719593009 : True := trivial
theorem main.tw12323336617457923468 : True := trivial
theorem main.tw13446191145139245230 : True := trivial
theorem main.tw5473700226181020891 : True := trivial
theorem main.tw16356685582667847594 : True := trivial
theorem main.tw12077450504624328385 : True := trivial
theorem main.tw6508729118710982530 : True := trivial
theorem main.tw4039676971129161736 : True := trivial
theorem main.tw8118072479153026202 : True := trivial
theorem main.tw17236958762192778904 : True := trivial
theorem main.tw13626721169425172152 : True := trivial
theorem main.tw9957550378297406723 : True := trivial
theorem main.tw3491332818749588091 : True := trivial
theorem main.tw302440914744352476 : True := trivial
theorem main.tw2647654807098235363 : True := trivial
theorem main.tw7214478077546791972 : True := trivial
theorem main.tw5127751686995613262 : True := trivial
theorem main.tw11003572833241299968 : True := trivial
theorem main.tw14061640607465278742 : True := trivial
theorem main.tw4475767826048309731 : True := trivial
theorem main.tw10665089971535097683 : True := trivial
theorem main.tw16950194794029067938 : True := trivial
theorem main.tw750237026923860459 : True := trivial
theorem main.tw11982392923317675503 : True := trivial
theorem main.tw13962693860625380366 : True := trivial
theorem main.tw15060185592220127646 : True := trivial
theorem main.tw17223442867436993403 : True := trivial
theorem main.tw4333880214566435006 : True := trivial
theorem main.tw387501639795913443 : True := trivial
theorem main.tw13293747886898857621 : True := trivial
theorem main.tw3960113756560652017 : True := trivial
theorem main.tw10047389527955405517 : True := trivial
theorem main.tw1850612553970854742 : True := trivial
theorem main.tw13667920496262714385 : True := trivial
theorem main.tw11710404883906591787 : True := trivial
theorem main.tw3137596982192898869 : True := trivial
theorem main.tw16187894506366716058 : True := trivial
theorem main.tw6862492499505807319 : True := trivial
theorem main.tw5400957986263281647 : True := trivial
theorem main.tw2109297985684337612 : True := trivial
theorem main.tw2921621734765799159 : True := trivial
theorem main.tw8211959896082780389 : True := trivial
theorem main.tw4490809748136132443 : True := trivial
theorem main.tw7761410557224570781 : True := trivial
theorem main.tw10177057350305019805 : True := trivial
theorem main.tw9361300454564663673 : True := trivial
theorem main.tw18431692314602308842 : True := trivial
theorem main.tw1777545030009416734 : True := trivial
theorem main.tw10159738436595150677 : True := trivial
theorem main.tw10094358506670053839 : True := trivial
theorem main.tw16153842264607907944 : True := trivial
theorem main.tw12623159325031504133 : True := trivial
theorem main.tw2538046985915079169 : True := trivial
theorem main.tw765107192605250810 : True := trivial
theorem main.tw1615045767204293396 : True := trivial
theorem main.tw13270728482189477470 : True := trivial
theorem main.tw2388630428582439864 : True := trivial
theorem main.tw13591255225166038476 : True := trivial
theorem main.tw834873547066669988 : True := trivial
theorem main.tw52199770228462824 : True := trivial
theorem main.tw17715262827843222689 : True := trivial
theorem main.tw16251939892948500945 : True := trivial
theorem main.tw13590572293223372214 : True := trivial
theorem main.tw8652556701797213591 : True := trivial
theorem main.tw6385024630547198690 : True := trivial
theorem main.tw4681395471914393968 : True := trivial
theorem main.tw6557543464795787104 : True := trivial
theorem main.tw9360745474812902239 : True := trivial
theorem main.tw1099256609624015869 : True := trivial
theorem main.tw5871769198996169552 : True := trivial
theorem main.tw13803360072150633466 : True := trivial
theorem main.tw5061512775090418087 : True := trivial
theorem main.tw832900586485598795 : True := trivial
theorem main.tw15465920861327815835 : True := trivial
theorem main.tw13642826006792871662 : True := trivial
theorem main.tw15491723280356408159 : True := trivial
theorem main.tw4573282807186111410 : True := trivial
theorem main.tw12483276189755474720 : True := trivial
theorem main.tw11120327062377616369 : True := trivial
theorem main.tw10609540516017602915 : True := trivial
theorem main.tw4585930131862741453 : True := trivial
theorem main.tw66260789543402106 : True := trivial
theorem main.tw7074144079889050967 : True := trivial
theorem main.tw11815829001073249272 : True := trivial
theorem main.tw1628013610222277130 : True := trivial
theorem main.tw8207831470162742035 : True := trivial
theorem main.tw14009396871252706886 : True := trivial
theorem main.tw16721930046160240684 : True := trivial
theorem main.tw12298629886278197574 : True := trivial
theorem main.tw9848185148710128376 : True := trivial
theorem main.tw656089360051881306 : True := trivial
theorem main.tw12900284412222446716 : True := trivial
theorem main.tw18421580907717582127 : True := trivial
theorem main.tw2566753976717531306 : True := trivial
theorem main.tw9656510801202774680 : True := trivial
theorem main.tw1545906260438175962 : True := trivial
theorem main.tw3343439749351644125 : True := trivial
theorem main.tw11672040692669724308 : True := trivial
theorem main.tw6449824600675878752 : True := trivial
theorem main.tw14313897822631088780 : True := trivial
theorem main.tw16193401482309157537 : True := trivial
theorem main.tw2190695567426971638 : True := trivial
theorem main.tw18403998269306519403 : True := trivial
theorem main.tw2921958311620399285 : True := trivial
theorem main.tw3549514262204291990 : True := trivial
theorem main.tw2702614204127132176 : True := trivial
theorem main.tw12915833801598196605 : True := trivial
theorem main.tw14439473939278146460 : True := trivial
theorem main.tw3934531018447913466 : True := trivial
theorem main.tw9756827057097773860 : True := trivial
theorem main.tw8930851030842425676 : True := trivial
theorem main.tw7083192437325867461 : True := trivial
theorem main.tw9274054859765456524 : True := trivial
theorem main.tw3626430660855392483 : True := trivial
theorem main.tw8475525182357872103 : True := trivial
theorem main.tw3848698983108048278 : True := trivial
theorem main.tw4940719279079490533 : True := trivial
theorem main.tw15768048840197415361 : True := trivial
theorem main.tw12670839924663504800 : True := trivial
theorem main.tw6877560268529008848 : True := trivial
theorem main.tw14662554035588321541 : True := trivial
theorem main.tw9561784451562097942 : True := trivial
theorem main.tw8905464785575363620 : True := trivial
theorem main.tw17477492558424962760 : True := trivial
theorem main.tw8947760058931562597 : True := trivial
theorem main.tw12252054271945606052 : True := trivial
theorem main.tw6635558491612396129 : True := trivial
theorem main.tw10199874654664476236 : True := trivial
theorem main.tw4189750870438640210 : True := trivial
theorem main.tw16922381011570985944 : True := trivial
theorem main.tw5665735395497279834 : True := trivial
theorem main.tw1178595665728414349 : True := trivial
theorem main.tw12277023271486646383 : True := trivial
theorem main.tw2110754180369666209 : True := trivial
theorem main.tw4839478117068044826 : True := trivial
theorem main.tw11595355409239048105 : True := trivial
theorem main.tw17201416709059790184 : True := trivial
theorem main.tw1054321117371714560 : True := trivial
theorem main.tw14097447854668400296 : True := trivial
theorem main.tw14793117695081215449 : True := trivial
theorem main.tw3557749057250611081 : True := trivial
theorem main.tw330327031418712150 : True := trivial
theorem main.tw13676971244355772609 : True := trivial
theorem main.tw12927740378394474205 : True := trivial
theorem main.tw9557352009045844224 : True := trivial
theorem main.tw3454311308915712629 : True := trivial
theorem main.tw9069182735580402390 : True := trivial
theorem main.tw1130211791997205004 : True := trivial
theorem main.tw16656740534632174751 : True := trivial
theorem main.tw14722489848711283861 : True := trivial
theorem main.tw6910295442248876197 : True := trivial
theorem main.tw15928290008803537013 : True := trivial
theorem main.tw14646587721710459877 : True := trivial
theorem main.tw14788915703135433725 : True := trivial
theorem main.tw14672674291997333471 : True := trivial
theorem main.tw15734200111481486640 : True := trivial
theorem main.tw5532463470591059822 : True := trivial
theorem main.tw13180746182150919023 : True := trivial
theorem main.tw9670510015898674028 : True := trivial
theorem main.tw6418098437765475518 : True := trivial
theorem main.tw4072190877284726289 : True := trivial
theorem main.tw6660377722381337597 : True := trivial
theorem main.tw3299218664060906527 : True := trivial
theorem main.tw1236483940969888574 : True := trivial
theorem main.tw1390771862084280389 : True := trivial
set_option Elab.async true
set_option rowWalk.seconds 0
set_option maxHeartbeats 60000000 in
theorem main : PySem.Challenge.rw_tk0109_01.Holds := by
  w_on
  o_law
  k_head
  case hw => w_witness2
  w_top off
  have c_adv_alt : Mine.adv_alt_C _root_.Mine.main.heap_1_39 _root_.Mine.main.view_1_40 := by
    as_aux_lemma =>
      have hMark8 : Mine.InWalk := .mk
      have hMark9 : Mine.InStep := .mk
      intro w mean mg mb c t lp e1 e2 e3 o1 o2 o3 xv yv sv av k its ep rv nv hv rest h1 h2 n1 n2 n3 h3 hsz
      unfold LClaim
      k_fill
      intro dp un gd cn cs a ccd cl outer A₀ base h₀ L m s Q E B F X N T hk hd hu hret
      refine wpAny_call ?_
      k_dflt ktr_enter
      k_steps
      all_goals (refine' hret _ _ _ _ _ (by k_asm) (by k_asm))
      all_goals first
        | exact ⟨_, _, _, _, _, _, rfl, rfl, by omega⟩
  have c_adv_cat : Mine.adv_cat_C _root_.Mine.main.heap_1_39 _root_.Mine.main.view_1_40 := by
    as_aux_lemma =>
      have hMark8 : Mine.InWalk := .mk
      have hMark9 : Mine.InStep := .mk
      intro w mean mg mb c t lp e1 e2 e3 o0 o1 o2 o3 xv yv sv av k rv nv hv rest
      unfold LClaim
      k_fill
      intro dp un gd cn cs a ccd cl outer A₀ base h₀ L m s Q E B F X N T hk hd hu hret
      refine wpAny_call ?_
      k_dflt ktr_enter
      k_steps
      all_goals (refine' hret _ _ _ _ _ (by k_asm) (by k_asm))
      all_goals first
        | exact ⟨_, _, _, _, _, rfl, rfl, by omega⟩
  have c_adv_now : Mine.adv_now_C _root_.Mine.main.heap_1_39 _root_.Mine.main.view_1_40 := by
    as_aux_lemma =>
      have hMark8 : Mine.InWalk := .mk
      have hMark9 : Mine.InStep := .mk
      intro w mean mg mb c t lp e1 e2 e3 o0 o1 o2 o3 xv yv sv av k rv nv hv rest
      unfold LClaim
      k_fill
      intro dp un gd cn cs a ccd cl outer A₀ base h₀ L m s Q E B F X N T hk hd hu hret
      refine wpAny_call ?_
      k_dflt ktr_enter
      k_steps
      all_goals (refine' hret _ _ _ _ _ (by k_asm) (by k_asm))
      all_goals first
        | exact ⟨_, _, _, _, _, _, _, rfl, rfl, by omega⟩
  have c_adv_chars : Mine.adv_chars_C _root_.Mine.main.heap_1_39 _root_.Mine.main.view_1_40 := by
    as_aux_lemma =>
      have hMark8 : Mine.InWalk := .mk
      have hMark9 : Mine.InStep := .mk
      intro w mean mg mb c t lp e1 e2 e3 o0 o1 o2 o3 k k' ts ta text subj i rv nv hv rest hi hl1 hl2
      unfold LClaim
      k_fill
      intro dp un gd cn cs a ccd cl outer A₀ base h₀ L m s Q E B F X N T hk hd hu hret
      refine wpAny_call ?_
      k_dflt ktr_enter
      k_steps
      all_goals (refine' hret _ _ _ _ _ (by k_asm) (by k_asm))
      all_goals first
        | exact Or.inr ⟨_, _, _, _, _, _, rfl, by assumption, rfl, by omega⟩
        | exact Or.inl ⟨rfl, by assumption, _, _, _, _, rfl⟩
  have c_adv_tab : Mine.adv_tab_C _root_.Mine.main.heap_1_39 _root_.Mine.main.view_1_40 := by
    as_aux_lemma =>
      have hMark8 : Mine.InWalk := .mk
      have hMark9 : Mine.InStep := .mk
      intro w mean mg mb c t lp e1 e2 e3 o0 o1 o2 o3 k k' ts ta subj i j rv nv hv rest hi hj hl2
      unfold LClaim
      k_fill
      intro dp un gd cn cs a ccd cl outer A₀ base h₀ L m s Q E B F X N T hk hd hu hret
      refine wpAny_call ?_
      k_dflt ktr_enter
      k_steps
      all_goals (refine' hret _ _ _ _ _ (by k_asm) (by k_asm))
      all_goals first
        | exact Or.inr ⟨_, _, _, _, _, _, rfl, by omega, rfl, by omega⟩
        | exact Or.inl ⟨rfl, by omega, _, _, _, _, rfl⟩
  have c_adv_arb : Mine.adv_arb_C _root_.Mine.main.heap_1_39 _root_.Mine.main.view_1_40 := by
    as_aux_lemma =>
      have hMark8 : Mine.InWalk := .mk
      have hMark9 : Mine.InStep := .mk
      intro w mean mg mb c t lp e1 e2 e3 o1 o2 o3 k ts ta subj i its ep rv nv hv rest h1 h2 n1 n2 n3 h3 hsz hi hl2
      unfold LClaim
      k_fill
      intro dp un gd cn cs a ccd cl outer A₀ base h₀ L m s Q E B F X N T hk hd hu hret
      refine wpAny_call ?_
      k_dflt ktr_enter
      k_steps
      all_goals (refine' hret _ _ _ _ _ (by k_asm) (by k_asm))
      all_goals first
        | exact Or.inr ⟨by omega, _, _, _, _, _, _, _, _, rfl, rfl, by omega⟩
        | exact Or.inl ⟨by omega, _, _, _, _, _, rfl, rfl, by omega⟩
  have c_adv_end : Mine.adv_end_C _root_.Mine.main.heap_1_39 _root_.Mine.main.view_1_40 := by
    as_aux_lemma =>
      have hMark8 : Mine.InWalk := .mk
      have hMark9 : Mine.InStep := .mk
      intro w mean mg mb c t lp dx hx rf rdx o0 ov rv nv k ts ta tb r1 r2 r3 r4 r5 subj i j lits lep rlep vx rl lg a1 a2 a3 a4 a5 a6 a7 a8 ks kk rest kvs hi hj hl2 hov hkv hsz n1 n2 n3 n4 n5 n6 n7 n8 n9 n10 n11 n12 n13 n14 n15 n16 n17 h3 h4
      unfold LClaim
      k_fill
      intro dp un gd cn cs a ccd cl outer A₀ base h₀ L m s Q E B F X N T hk hd hu hret
      refine wpAny_call ?_
      k_dflt ktr_enter
      k_steps
      all_goals (refine' hret _ _ _ _ _ (by k_asm) (by k_asm))
      all_goals exact ⟨_, _, _, _, _, rfl, by assumption, by simp, ⟨_, _, _, _, rfl⟩, by omega⟩
  have c_host_step : Mine.host_step_C _root_.Mine.main.heap_1_39 _root_.Mine.main.view_1_40 := by
    as_aux_lemma =>
      have hMark8 : Mine.InWalk := .mk
      have hMark9 : Mine.InStep := .mk
      intro w mean mg mb hx dx vx rl lg a1 a2 a3 a4 a5 a6 a7 a8 ks kk rest h1 h3 hk0 hk1
      unfold LClaim
      k_fill
      intro dp un gd cn cs a ccd cl outer A₀ base h₀ L m s Q E B F X N T hk hd hu hret
      refine wpAny_call ?_
      k_dflt ktr_enter
      k_steps
      all_goals (refine' hret _ _ _ _ _ (by k_asm) (by k_asm))
      all_goals exact ⟨_, rfl, rfl⟩
  have c_steps : Mine.Steps _root_.Mine.main.heap_1_39 _root_.Mine.main.view_1_40 := ⟨c_adv_alt, c_adv_cat, c_adv_now, c_adv_chars, c_adv_tab, c_adv_arb, c_adv_end, c_host_step⟩
  clear c_adv_alt c_adv_cat c_adv_now c_adv_chars c_adv_tab c_adv_arb c_adv_end c_host_step
  have c_tried_claim : Mine.tried_claim_C _root_.Mine.main.heap_1_39 _root_.Mine.main.view_1_40 := by
    as_aux_lemma =>
      have hMark8 : Mine.InWalk := .mk
      have hMark9 : Mine.InTried := .mk
      intro w mean mg mb vx rl lg hx dx rf rdx tn a1 a2 a3 a4 a5 a6 a7 a8 ks r1 r2 r3 r4 r5 ts tb rlep lep ov subj rest top f res o1 o2 o3 o4 o5 o6 hA hn hov hs5 hrun hf
      unfold LClaim
      k_fill
      intro dp un gd cn cs a ccd cl outer A₀ base h₀ L m s Q E B F X N T hk hd hu hret
      refine wpAny_call ?_
      k_dflt ktr_enter
      k_steps
      rename _ ∧ _ ∧ _ ∧ _ ∧ _ ∧ _ ∧ _ ∧ _ ∧ _ ∧ _ ∧ AllLt _ rest => q1
      rename _ ∧ _ ∧ _ ∧ _ ∧ _ ∧ _ ∧ _ ∧ _ ∧ _ ∧ AllLt _ rest => q2
      rename _ ∧ _ ∧ _ ∧ _ ∧ _ ∧ _ ∧ _ ∧ _ ∧ AllLt _ rest => q3
      rename _ ∧ _ ∧ _ ∧ _ ∧ _ ∧ _ ∧ _ ∧ AllLt _ rest => q4
      obtain ⟨O, I0⟩ := tried_inv (w := w) (ks := ks) (lep := lep) (tb := tb) (a1 := a1) (a2 := a2) (a3 := a3) (a4 := a4) (a5 := a5) (a6 := a6) (a7 := a7) (a8 := a8) (r1 := r1) (r2 := r2) (r3 := r3) (r4 := r4) (r5 := r5) (rlep := rlep) o1 o2 o3 o4 o5 o6 hA hn hov hrun hf q1 q2 q3 q4
      have o7 := O.o7
      have o8 := O.o8
      dsimp only at o7 o8
      unfold Stop
      refine outer_while O subj res rest _ (by k_asm) (tried_start (by k_asm)) I0 ?turn_tried
      intro c u h tk hI F9 N9
      obtain ⟨its, ep, kk, ks, ov, lits, lep, rest1, ps, V, kvs, f⟩ := c
      obtain ⟨pl, sd, vr, go, k0, k1, ls, ap, bd, up⟩ := hI
      dsimp only [StO.led, Can, Fx.stat, Fx.host] at *
      cases pl with
      | nil =>
        have e9 : some (none, V) = some res := go
        (try k_fold)
        k_steps
        all_goals (refine' hret _ _ _ _ _ (by k_asm) (by k_asm))
        all_goals exact .inl ⟨by cases e9; rfl, rfl, fun p h => mem_tail (mem_tail (mem_tail (mem_tail (mem_tail (mem_tail (mem_tail (mem_tail (mem_tail (up p h)))))))))⟩
      | @cons l i ps its t tokA cv hm hc hp =>
        have s9 : (its.push (Value.ref t)).size = its.size + 1 := Array.size_push ..
        have s8 : its.size = ps.length := hp.size
        have s7 : (its.push (Value.ref t)).size ≤ sizeLine := by rw [sizeLine_eq, s9, s8]; simp only [List.length_cons] at bd; omega
        have s6 : its.size + 1 ≤ sizeLine := by omega
        have g9 : run subj f l i ps V = some res := go
        have t9 := (ap _ hm).1
        have r9 : ∀ p ∈ rest1, p.1 ≠ _ := fun p h => (ap p h).1
        dsimp only at t9 r9
        have N8 := news_add N9 (mem_tail (mem_tail (mem_tail (mem_tail (mem_tail (mem_tail (mem_tail (mem_tail (mem_tail hm)))))))))
        clear N9
        (try k_fold)
        k_steps
        unfold Stop
        refine inner_while O subj res f rest ⟨cv, i, tokA, its, ep + 1, kk, ks, ov, lits, lep, rest1, l, ps, V, kvs, f⟩ (by k_asm) (cb_drop (by k_asm) (sub_tail sub_refl)) rfl rfl rfl ⟨hc, hp, sd, vr, g9, k0, k1, ls, ap, Nat.le_refl _, up⟩ ?turn2_tried
        intro c u h tk hI F9 N9
        obtain ⟨cv, i, ti, its, ep, kk, ks, ov, lits, lep, rest2, l, ps, V, kvs, f2⟩ := c
        obtain ⟨ch, pl, sd, vr, go, k0, k1, ls, ap, ff, up⟩ := hI
        dsimp only [StI.led, StI.bind, Can, Fx.stat, Fx.host] at ch pl sd vr go k0 k1 ls ap ff up F9 N9
        cases ch with
        | nil =>
          have e8 := run_nil go
          (try k_fold)
          k_steps
          refine' hret _ _ _ _ _ (by k_asm) (by k_asm)
          exact .inr ⟨i, _, _, _, ti, kk, ks, ov, kvs, lits, lep, by rw [e8], rfl, sd, by rw [e8]; exact vr, sub_cons mem_head (sub_cons (mem_tail mem_head) (sub_cons (mem_tail (mem_tail (mem_tail mem_head))) (sub_cons (mem_tail (mem_tail (mem_tail (mem_tail mem_head)))) (sub_cons (mem_tail (mem_tail (mem_tail (mem_tail (mem_tail mem_head))))) (sub_cons (mem_tail (mem_tail (mem_tail (mem_tail (mem_tail (mem_tail mem_head)))))) (fun p h => mem_tail (mem_tail (mem_tail (mem_tail (mem_tail (mem_tail (mem_tail (mem_tail (mem_tail (mem_tail (mem_tail (up p h)))))))))))))))))⟩
        | @cons n l vn vl t hm2 hn2 hl2 =>
          have hg := run_ok go
          have f9 := run_pos go
          have h99 : kk < 9999 := by omega
          have hsz : lits.size ≤ 9999 := by omega
          (try k_fold)
          k_steps
          unfold Stop
          refine' LClaim.call ?F_tried ?B_tried ?X_tried ?T_tried ?k_tried (any_at c_steps ?O_tried ?A_tried ?hc_tried ?rn_tried ?rl_tried ?rp_tried ?hov_tried ?hV_tried ?hg_tried ?hs5_tried ?hsz_tried ?e_tried) ?N_tried ?d_tried ?u_tried ?_
          case F_tried => k_asm
          case B_tried => k_asm
          case X_tried => k_asm
          case T_tried => k_asm
          case k_tried => first | exact rfl | assumption
          case O_tried => assumption
          case N_tried => k_asm
          case e_tried => exact rfl
          case A_tried => assumption
          case hc_tried => assumption
          case rn_tried => assumption
          case rl_tried => assumption
          case rp_tried => assumption
          case hov_tried => assumption
          case hV_tried => assumption
          case hg_tried => assumption
          case hs5_tried => assumption
          case hsz_tried => assumption
          case d_tried => ktr_room
          case u_tried => ktr_units
          intro r' n' h' tk' hR F' N'
          rcases hR with ⟨hst, e1, e2⟩ | ⟨l', i', d, cv', tok, its', ep', ov', kvs', lits', lep', rest', hst, e1, e2, hch, hpl, hsd, hvr, hls, hsub, hap, hd9⟩
          · subst e1; subst e2; (dsimp only [Can, Fx.stat, Fx.host] at N')
            (try k_fold)
            k_steps
            unfold Stop
            refine ksw_end ⟨its, ep, kk + 1, _, ov, lits, lep, rest2, ps, V, kvs, f2 - 1⟩ (by k_asm) (by k_asm) (fun p h => h) trivial (fun _ h => nomatch h) ?same_tried ⟨pl, sd, vr, run_none go hst, ?i1_tried, ?i2_tried, ?i3_tried, ap, okAt_len hg, up⟩ ?ms_tried
            case i1_tried => dsimp only; omega
            case i2_tried => dsimp only; omega
            case i3_tried => dsimp only; omega
            case ms_tried => dsimp only; omega
            case same_tried =>
              intro z _ h3
              simp only [List.contains_cons, List.contains_nil, Bool.or_false, Bool.or_eq_false_iff, beq_eq_false_iff_ne, ne_eq] at h3
              simp [kstB, h3]
          · subst e1; subst e2; (dsimp only [Can, Fx.stat, Fx.host] at N')
            (try k_fold)
            k_steps
            unfold Stop
            refine ksw_end ⟨cv', i', tok, its', ep', kk + 1, _, ov', lits', lep', rest', l', _, _, kvs', f2 - 1⟩ (by k_asm) (by k_asm) (fun p h => mem_tail h) trivial ?bd_tried ?same_tried ⟨hch, hpl, hsd, hvr, run_some go hst, ?i1_tried, ?i2_tried, ?i3_tried, hap, ?i4_tried, fun p h => hsub p (up p h)⟩ ?ms_tried
            case bd_tried =>
              intro p hp
              simp only [StI.bind, List.mem_cons, List.not_mem_nil, or_false] at hp
              rcases hp with rfl | rfl | rfl <;> rfl
            case i1_tried => dsimp only; omega
            case i2_tried => dsimp only; omega
            case i3_tried => dsimp only; omega
            case i4_tried => dsimp only; omega
            case ms_tried => dsimp only; omega
            case same_tried =>
              intro z h2 h3
              simp only [StI.bind, List.forall_mem_cons, List.not_mem_nil, false_implies, implies_true, and_true, ne_eq] at h2
              simp only [List.contains_cons, List.contains_nil, Bool.or_false, Bool.or_eq_false_iff, beq_eq_false_iff_ne, ne_eq] at h3
              simp [kstB, h2, h3]
  clear c_steps
  have c_less_claim : Mine.less_claim_C _root_.Mine.main.heap_1_39 _root_.Mine.main.view_1_40 := by
    as_aux_lemma =>
      have hMark8 : Mine.InWalk := .mk
      have hMark9 : Mine.InLess := .mk
      intro w mean mg mb word place ts tp news res hw hrun hres
      unfold LClaim
      k_fill
      intro dp un gd cn cs a ccd cl outer A₀ base h₀ L m s Q E B F X N T hk hd hu hret
      refine wpAny_call ?_
      k_dflt ktr_enter
      k_steps
      rename (∀ p ∈ news, _) => hnews
      unfold Stop
      have N9 := less_start (w := w) (by k_asm)
      refine' LClaim.call ?F_less ?B_less ?X_less ?T_less ?k_less (tried_at c_tried_claim (top := topN place) (f := 200) ?o1_less ?o2_less ?o3_less ?o4_less ?o5_less ?o6_less ?hA_less ?hn_less ?hov_less hw hrun (by omega) ?e_less) N9 ?d_less ?u_less ?_
      case F_less => k_asm
      case B_less => k_asm
      case X_less => k_asm
      case T_less => k_asm
      case k_less => first | exact rfl | assumption
      case e_less => exact rfl
      case hn_less => exact (.cat (mem_tail (mem_head)) (.now (mem_tail (mem_tail (mem_head))) (.cat (mem_tail (mem_tail (mem_tail (mem_head)))) (.tab (mem_tail (mem_tail (mem_tail (mem_tail (mem_tail (mem_head))))))) (.arb (mem_tail (mem_tail (mem_tail (mem_tail (mem_head)))))))) (.alt (mem_tail (mem_tail (mem_tail (mem_tail (mem_tail (mem_tail (mem_head))))))) (.alt (mem_tail (mem_tail (mem_tail (mem_tail (mem_tail (mem_tail (mem_tail (mem_tail (mem_tail (mem_tail (mem_head))))))))))) (.chars (mem_tail (mem_tail (mem_tail (mem_tail (mem_tail (mem_tail (mem_tail (mem_tail (mem_tail (mem_tail (mem_tail (mem_tail (mem_head)))))))))))))) (.chars (mem_tail (mem_tail (mem_tail (mem_tail (mem_tail (mem_tail (mem_tail (mem_tail (mem_tail (mem_tail (mem_tail (mem_head)))))))))))))) (.alt (mem_tail (mem_tail (mem_tail (mem_tail (mem_tail (mem_tail (mem_tail (mem_head)))))))) (.chars (mem_tail (mem_tail (mem_tail (mem_tail (mem_tail (mem_tail (mem_tail (mem_tail (mem_tail (mem_head))))))))))) (.chars (mem_tail (mem_tail (mem_tail (mem_tail (mem_tail (mem_tail (mem_tail (mem_tail (mem_head)))))))))))))
      case hov_less => assumption
      case o1_less => omega
      case o2_less => omega
      case o3_less => omega
      case o4_less => omega
      case o5_less => omega
      case o6_less => omega
      case hA_less =>
        simp only [List.forall_mem_cons]
        refine ⟨⟨neN (by omega), neN (by omega), neN (by omega)⟩, ⟨neN (by omega), neN (by omega), neN (by omega)⟩, ⟨neN (by omega), neN (by omega), neN (by omega)⟩, ⟨neN (by omega), neN (by omega), neN (by omega)⟩, ⟨neN (by omega), neN (by omega), neN (by omega)⟩, ⟨neN (by omega), neN (by omega), neN (by omega)⟩, ⟨neN (by omega), neN (by omega), neN (by omega)⟩, ⟨neN (by omega), neN (by omega), neN (by omega)⟩, ⟨neN (by omega), neN (by omega), neN (by omega)⟩, ⟨neN (by omega), neN (by omega), neN (by omega)⟩, ⟨neN (by omega), neN (by omega), neN (by omega)⟩, ⟨neN (by omega), neN (by omega), neN (by omega)⟩, ⟨neN (by omega), neN (by omega), neN (by omega)⟩, fun p hp => ?_⟩
        have h9 := ltN (hnews p hp)
        exact ⟨neN (by omega), neN (by omega), neN (by omega)⟩
      case d_less => ktr_room
      case u_less => ktr_units
      clear N9
      intro r' n' h' tk' hR F' N'
      rcases hR with ⟨hr1, e1, hsub⟩ | ⟨iZ, dZ, dlZ, deZ, tokZ, kkZ, ksZ, ovZ, kvsZ, litsZ, lepZ, hr1, e1, hsd, hvr, hsub⟩
      · subst e1
        have N7 := cb_drop N' hsub
        clear N'
        (try k_fold)
        k_steps
        refine UnrEnd.intro (by k_asm) (by k_asm) news (show Sub _ _ from ?sub_less) ?off_less ?r_less
        case sub_less => exact sub_cons mem_head (fun p h => mem_tail (mem_tail (mem_tail (mem_tail (mem_tail (mem_tail (mem_tail (mem_tail (mem_tail (mem_tail (mem_tail (mem_tail (mem_tail h)))))))))))))
        case off_less =>
          intro p hp
          have h9 := ltN (hnews p hp)
          exact neN (by omega)
        (try k_fold)
        k_steps
        refine' hret _ _ _ _ _ (by k_asm) (by k_asm)
        exact ⟨by repeat (first | exact sub_refl | refine sub_tail ?_), .inl ⟨hr1, rfl⟩⟩
      · subst e1
        have N7 := cb_drop N' hsub
        clear N'
        rcases hres with hq | ⟨iY, pY, hq, hi0, hi1, hp5⟩
        · rw [hr1] at hq; cases hq
        · subst hq
          cases hr1
          obtain ⟨tkV, rfl⟩ := hvr
          (try k_fold)
          k_steps
          refine' hret _ _ _ _ _ (by k_asm) (by k_asm)
          exact ⟨by repeat (first | exact sub_refl | refine sub_tail ?_), .inr ⟨_, _, _, rfl, rfl⟩⟩
  clear c_tried_claim
  have c_grid_claim : Mine.grid_claim_C _root_.Mine.main.heap_1_39 _root_.Mine.main.view_1_40 := by
    as_aux_lemma =>
      have hMark8 : Mine.InWalk := .mk
      have hMark9 : Mine.InGrid := .mk
      intro w mean mg mb word ts news hw
      unfold LClaim
      k_fill
      intro dp un gd cn cs a ccd cl outer A₀ base h₀ L m s Q E B F X N T hk hd hu hret
      refine wpAny_call ?_
      k_dflt ktr_enter
      k_steps
      unfold Stop
      refine' KStt.kst_text (fun _ : StG => _) StG.bind (fun _ => True) [S "more"] (fun pre c => (c.p, c.q, c.r, c.s) = gridF pre) ⟨1, 0, 0, 1, _, _, _, _⟩ (by rfl) (by k_asm) (by k_asm) trivial ?hk_grid rfl ?turn_grid ?done_grid
      case hk_grid =>
        intro p hp
        simp only [StG.bind, List.mem_cons, List.not_mem_nil, or_false] at hp
        rcases hp with rfl | rfl | rfl | rfl <;> rfl
      case turn_grid =>
        intro c pre post n t u h tk own hc hoff _ hP F9 N9
        obtain ⟨p, q, r, s, tp, tq, tr, tss⟩ := c
        dsimp only [StG.bind] at hP F9 N9
        have hb := grid_bd pre (by
          have h1 := KStt.codes_length word
          rw [hc, List.length_append] at h1
          omega)
        rw [← hP] at hb
        obtain ⟨⟨b1, b2⟩, ⟨b3, b4⟩, ⟨b5, b6⟩, ⟨b7, b8⟩⟩ := hb
        dsimp only at b1 b2 b3 b4 b5 b6 b7 b8
        (try k_fold)
        k_steps
        all_goals unfold Stop
        all_goals (refine' InvEndN.intro (by k_asm) (by k_asm) ⟨⟨_, _, _, _, _, _, _, _⟩, rfl, trivial, bind4 rfl rfl rfl rfl, ?_, ?_⟩ rfl (fun p hp => mem_tail (List.mem_append_left _ hp)) (fun p hp => mem_tail (List.mem_append_right _ hp)))
        all_goals first
          | (dsimp only; rw [gridF_snoc, ← hP]; first | exact gs_tt (by assumption) (by assumption) | exact gs_tf (by assumption) (by assumption) | exact gs_ft (by assumption) (by assumption) | exact gs_ff (by assumption) (by assumption))
          | (intro z h1 h2 h3
             simp only [StG.bind, List.forall_mem_cons, List.not_mem_nil, false_implies, implies_true, and_true, ne_eq] at h2
             simp only [List.contains_cons, List.contains_nil, Bool.or_false, Bool.or_eq_false_iff, beq_eq_false_iff_ne, ne_eq] at h3
             simp [kstB, h1, h2, h3])
      case done_grid =>
        intro c u h tk _ hP F9 N9
        obtain ⟨p, q, r, s, tp, tq, tr, tss⟩ := c
        dsimp only [StG.bind] at hP F9 N9
        (try k_fold)
        k_steps
        refine' hret _ _ _ _ _ (by k_asm) (by k_asm)
        have e : gridF (KStt.codes word) = (p, q, r, s) := hP.symm
        exact ⟨_, _, _, _, _, rfl, by rw [e]; exact sub_cons mem_head (sub_tail (sub_tail sub_refl))⟩
  have c_end_claim : Mine.end_claim_C _root_.Mine.main.heap_1_39 _root_.Mine.main.view_1_40 := by
    as_aux_lemma =>
      have hMark8 : Mine.InWalk := .mk
      have hMark9 : Mine.InEnd := .mk
      intro PL w mean mg mb word begin' ts tb news hw hb
      unfold LClaim
      k_fill
      intro dp un gd cn cs a ccd cl outer A₀ base h₀ L m s Q E B F X N T hk hd hu hret
      refine wpAny_call ?_
      k_dflt ktr_enter
      k_steps
      unfold Stop
      refine' LClaim.call ?F_endw ?B_endw ?X_endw ?T_endw ?k_endw (grid_plain c_grid_claim w mean mg mb hw rfl ?e_endw) ?N_endw ?d_endw ?u_endw ?_
      case F_endw => k_asm
      case B_endw => k_asm
      case X_endw => k_asm
      case T_endw => k_asm
      case k_endw => first | exact rfl | assumption
      case e_endw => exact rfl
      case N_endw => k_asm
      case d_endw => ktr_room
      case u_endw => ktr_units
      intro r' n' h' tk' hR F' N'
      obtain ⟨gd, g1, g2, g3, g4, e1, hsub⟩ := hR
      subst e1
      have N7 := cb_drop N' hsub
      clear N'
      (try k_fold)
      k_steps
      unfold Stop
      refine' kst_range (n := 9) (fun _ : StE => _) StE.bind (fun _ => True) [S "later"] (InvE word) ⟨word, ts⟩ rfl (by assumption) rfl rfl (by k_asm) (by k_asm) trivial ?hk_endw ?hp_endw ?turn_endw ?done_endw
      case hk_endw =>
        intro p hp
        simp only [StE.bind, List.mem_cons, List.not_mem_nil, or_false] at hp
        subst hp
        rfl
      case hp_endw => exact ⟨hw, rfl, rfl, by simpa using hw.len⟩
      case done_endw =>
        intro c u h tk _ hP F9 N9
        exfalso
        have h1 := hP.len
        have h2 : (rangeKs 0 9).length = 9 := rfl
        omega
      case turn_endw =>
        intro c pre k t u h tk own hkk hlt hoff _ hP F9 N9
        obtain ⟨wd, tkw⟩ := c
        obtain ⟨hgood, hgrid, hnf, hlen⟩ := hP
        dsimp only [StE.bind] at hgood hgrid hnf hlen F9 N9
        have hl0 : (0 : Int) ≤ (wd.length : Int) := Int.natCast_nonneg _
        have hk0 : 0 ≤ k ∧ k ≤ 2 := by omega
        have hfm : (begin' + 3 * k).fmod ((wd.length : Int) + 1) = (begin' + 3 * k) % ((wd.length : Int) + 1) := Int.fmod_eq_emod_of_nonneg _ (by omega)
        have hm0 : 0 ≤ (begin' + 3 * k).fmod ((wd.length : Int) + 1) := by rw [hfm]; exact Int.emod_nonneg _ (by omega)
        have hm1 : (begin' + 3 * k).fmod ((wd.length : Int) + 1) ≤ (wd.length : Int) := by
          rw [hfm]
          have := Int.emod_lt_of_pos (begin' + 3 * k) (show 0 < (wd.length : Int) + 1 by omega)
          omega
        clear hfm
        (try k_fold)
        k_steps
        unfold Stop
        refine' LClaim.call ?F_endw ?B_endw ?X_endw ?T_endw ?k_endw (less_plain c_less_claim PL w mean mg mb hgood ?h0_endw ?h1_endw ?e_endw) ?N_endw ?d_endw ?u_endw ?_
        case F_endw => k_asm
        case B_endw => k_asm
        case X_endw => k_asm
        case T_endw => k_asm
        case k_endw => first | exact rfl | assumption
        case e_endw => exact rfl
        case h0_endw => assumption
        case h1_endw => assumption
        case N_endw => k_asm
        case d_endw => ktr_room
        case u_endw => ktr_units
        intro r' n' h' tk' hR F' N'
        obtain ⟨hsub, ⟨e1, hn⟩ | ⟨w', tokW, e1, hred⟩⟩ := hR
        · subst e1
          have N7 := cb_drop N' hsub
          clear N'
          (try k_fold)
          k_steps
          unfold Stop
          refine' LClaim.call ?F_endw ?B_endw ?X_endw ?T_endw ?k_endw (less_plain c_less_claim PL w mean mg mb hgood ?h0_endw ?h1_endw ?e_endw) ?N_endw ?d_endw ?u_endw ?_
          case F_endw => k_asm
          case B_endw => k_asm
          case X_endw => k_asm
          case T_endw => k_asm
          case k_endw => first | exact rfl | assumption
          case e_endw => exact rfl
          case h0_endw => decide
          case h1_endw => assumption
          case N_endw => k_asm
          case d_endw => ktr_room
          case u_endw => ktr_units
          intro r' n' h' tk' hR F' N'
          obtain ⟨hsub, ⟨e1, hn⟩ | ⟨w', tokW, e1, hred⟩⟩ := hR
          · subst e1
            have N7 := cb_drop N' hsub
            clear N'
            (try k_fold)
            k_steps
            refine' hret _ _ _ _ _ (by k_asm) (by k_asm)
            exact ⟨fun p hp => List.mem_append_left _ (mem_tail hp), tkw, congrArg (fun x => Value.str x tkw) ((hn rfl).symm.trans hnf)⟩
          · subst e1
            have N7 := cb_drop N' hsub
            clear N'
            (try k_fold)
            k_steps
            unfold Stop
            refine' LClaim.call ?F_endw ?B_endw ?X_endw ?T_endw ?k_endw (grid_plain c_grid_claim w mean mg mb hred.good (hred.grid.trans hgrid) ?e_endw) ?N_endw ?d_endw ?u_endw ?_
            case F_endw => k_asm
            case B_endw => k_asm
            case X_endw => k_asm
            case T_endw => k_asm
            case k_endw => first | exact rfl | assumption
            case e_endw => exact rfl
            case N_endw => k_asm
            case d_endw => ktr_room
            case u_endw => ktr_units
            intro r' n' h' tk' hR F' N'
            obtain ⟨gd2, g12, g22, g32, g42, e1, hsub2⟩ := hR
            subst e1
            have N7 := cb_drop N' hsub2
            clear N'
            (try k_fold)
            k_steps
            unfold Stop
            refine' InvEndN.intro (by k_asm) (by k_asm) ⟨⟨w', tokW⟩, rfl, trivial, bind1 rfl, ?_, ⟨hred.good, hred.grid.trans hgrid, hred.nf.trans hnf, ?_⟩⟩ rfl (fun p hp => mem_tail (List.mem_append_left _ hp)) (fun p hp => mem_tail (List.mem_append_right _ hp))
            · intro z h1 h2 h3
              simp only [StE.bind, List.forall_mem_cons, List.not_mem_nil, false_implies, implies_true, and_true, ne_eq] at h2
              simp only [List.contains_cons, List.contains_nil, Bool.or_false, Bool.or_eq_false_iff, beq_eq_false_iff_ne, ne_eq] at h3
              simp [kstB, h1, h2, h3]
            · have hl9 := hred.len
              simp only [List.length_append, List.length_cons, List.length_nil]
              omega
        · subst e1
          have N7 := cb_drop N' hsub
          clear N'
          (try k_fold)
          k_steps
          unfold Stop
          refine' LClaim.call ?F_endw ?B_endw ?X_endw ?T_endw ?k_endw (grid_plain c_grid_claim w mean mg mb hred.good (hred.grid.trans hgrid) ?e_endw) ?N_endw ?d_endw ?u_endw ?_
          case F_endw => k_asm
          case B_endw => k_asm
          case X_endw => k_asm
          case T_endw => k_asm
          case k_endw => first | exact rfl | assumption
          case e_endw => exact rfl
          case N_endw => k_asm
          case d_endw => ktr_room
          case u_endw => ktr_units
          intro r' n' h' tk' hR F' N'
          obtain ⟨gd2, g12, g22, g32, g42, e1, hsub2⟩ := hR
          subst e1
          have N7 := cb_drop N' hsub2
          clear N'
          (try k_fold)
          k_steps
          unfold Stop
          refine' InvEndN.intro (by k_asm) (by k_asm) ⟨⟨w', tokW⟩, rfl, trivial, bind1 rfl, ?_, ⟨hred.good, hred.grid.trans hgrid, hred.nf.trans hnf, ?_⟩⟩ rfl (fun p hp => mem_tail (List.mem_append_left _ hp)) (fun p hp => mem_tail (List.mem_append_right _ hp))
          · intro z h1 h2 h3
            simp only [StE.bind, List.forall_mem_cons, List.not_mem_nil, false_implies, implies_true, and_true, ne_eq] at h2
            simp only [List.contains_cons, List.contains_nil, Bool.or_false, Bool.or_eq_false_iff, beq_eq_false_iff_ne, ne_eq] at h3
            simp [kstB, h1, h2, h3]
          · have hl9 := hred.len
            simp only [List.length_append, List.length_cons, List.length_nil]
            omega
  clear c_less_claim
  have hMark9 : Mine.InLaw := .mk
  k_go0
  all_goals (try k_fold)
  k_steps
  (rename News _ _ _ _ => N6)
  have N5 := keepA N6
  clear N6
  unfold Stop
  refine' LClaim.call ?qF1_lw ?qB1_lw ?qX1_lw ?qT1_lw ?qk1_lw (end_new c_end_claim plain_law _ _ _ _ ?qg1_lw beg0 ?qe1_lw ) ?qN1_lw ?qd1_lw ?qu1_lw ?_
  case qF1_lw => k_asm
  case qB1_lw => k_asm
  case qX1_lw => k_asm
  case qT1_lw => k_asm
  case qk1_lw => first | exact rfl | assumption
  case qe1_lw => exact rfl
  case qg1_lw => with_reducible assumption
  case qN1_lw => k_asm
  case qd1_lw => ktr_room
  case qu1_lw => ktr_units
  intro r' n' h' tk' hR F' N'
  obtain ⟨hsub, xE, tokE, e1, hxE⟩ := hR
  subst e1
  have N7 := cb_drop N' hsub
  clear N'
  (try k_fold)
  k_steps
  unfold Stop
  refine' LClaim.call ?qF2_lw ?qB2_lw ?qX2_lw ?qT2_lw ?qk2_lw (end_new c_end_claim plain_law _ _ _ _ ?qg2_lw beg0 ?qe2_lw ) ?qN2_lw ?qd2_lw ?qu2_lw ?_
  case qF2_lw => k_asm
  case qB2_lw => k_asm
  case qX2_lw => k_asm
  case qT2_lw => k_asm
  case qk2_lw => first | exact rfl | assumption
  case qe2_lw => exact rfl
  case qg2_lw => with_reducible assumption
  case qN2_lw => k_asm
  case qd2_lw => ktr_room
  case qu2_lw => ktr_units
  intro r' n' h' tk' hR F' N'
  obtain ⟨hsub, xE, tokE, e1, hxE⟩ := hR
  subst e1
  have N7 := cb_drop N' hsub
  clear N'
  (try k_fold)
  k_steps
  unfold Stop
  refine' LClaim.call ?qF3_lw ?qB3_lw ?qX3_lw ?qT3_lw ?qk3_lw (end_old c_end_claim plain_law _ _ _ _ ?qg3_lw ?qx3_lw beg1 ?qe3_lw ) ?qN3_lw ?qd3_lw ?qu3_lw ?_
  case qF3_lw => k_asm
  case qB3_lw => k_asm
  case qX3_lw => k_asm
  case qT3_lw => k_asm
  case qk3_lw => first | exact rfl | assumption
  case qe3_lw => exact rfl
  case qg3_lw => with_reducible assumption
  case qx3_lw => with_reducible assumption
  case qN3_lw => k_asm
  case qd3_lw => ktr_room
  case qu3_lw => ktr_units
  intro r' n' h' tk' hR F' N'
  obtain ⟨hsub, tokE, e1⟩ := hR
  subst e1
  have N7 := cb_drop N' hsub
  clear N'
  (try k_fold)
  k_steps
  (rename News _ _ _ _ => N8)
  have N9 := keepW N8
  clear N8
  unfold Stop
  refine' LClaim.call ?qF4_lw ?qB4_lw ?qX4_lw ?qT4_lw ?qk4_lw (grid_new c_grid_claim _ _ _ _ ?qg4_lw ?qe4_lw ) ?qN4_lw ?qd4_lw ?qu4_lw ?_
  case qF4_lw => k_asm
  case qB4_lw => k_asm
  case qX4_lw => k_asm
  case qT4_lw => k_asm
  case qk4_lw => first | exact rfl | assumption
  case qe4_lw => exact rfl
  case qg4_lw => with_reducible assumption
  case qN4_lw => k_asm
  case qd4_lw => ktr_room
  case qu4_lw => ktr_units
  intro r' n' h' tk' hR F' N'
  obtain ⟨g1, g2, g3, g4, gd, s1, s2, s3, s4, e1, hgr, hsub⟩ := hR
  subst e1
  have N7 := cb_drop N' hsub
  clear N'
  (try k_fold)
  k_steps
  unfold Stop
  refine' LClaim.call ?qF5_lw ?qB5_lw ?qX5_lw ?qT5_lw ?qk5_lw (grid_new c_grid_claim _ _ _ _ ?qg5_lw ?qe5_lw ) ?qN5_lw ?qd5_lw ?qu5_lw ?_
  case qF5_lw => k_asm
  case qB5_lw => k_asm
  case qX5_lw => k_asm
  case qT5_lw => k_asm
  case qk5_lw => first | exact rfl | assumption
  case qe5_lw => exact rfl
  case qg5_lw => with_reducible assumption
  case qN5_lw => k_asm
  case qd5_lw => ktr_room
  case qu5_lw => ktr_units
  intro r' n' h' tk' hR F' N'
  obtain ⟨g1, g2, g3, g4, gd, s1, s2, s3, s4, e1, hgr, hsub⟩ := hR
  subst e1
  have N7 := cb_drop N' hsub
  clear N'
  (try k_fold)
  k_steps
  unfold Stop
  refine' LClaim.call ?qF6_lw ?qB6_lw ?qX6_lw ?qT6_lw ?qk6_lw (end_new c_end_claim plain_law _ _ _ _ ?qg6_lw beg0 ?qe6_lw ) ?qN6_lw ?qd6_lw ?qu6_lw ?_
  case qF6_lw => k_asm
  case qB6_lw => k_asm
  case qX6_lw => k_asm
  case qT6_lw => k_asm
  case qk6_lw => first | exact rfl | assumption
  case qe6_lw => exact rfl
  case qg6_lw => (refine Dead.good ?_; with_reducible assumption)
  case qN6_lw => k_asm
  case qd6_lw => ktr_room
  case qu6_lw => ktr_units
  intro r' n' h' tk' hR F' N'
  obtain ⟨hsub, xE, tokE, e1, hxE⟩ := hR
  subst e1
  have N7 := cb_drop N' hsub
  clear N'
  (try k_fold)
  k_steps
set_option Elab.async false
end Mine
end

theorem PySem.Challenge.cw_tk0109_01_holds : PySem.Challenge.rw_tk0109_01.Holds :=
  Mine.main
